import PyProof.Rows.All
import Wide.All
import OpenK.AllK
import Wide.FinOn
import Lean
import PySem.Challenge.RW_ov0057_01
open PySem PySem.W PyProof.Rows PySem.Spec PySem.Calls PyProof.V
set_option Elab.async false
set_option maxRecDepth 100000

namespace Mine
section
local macro_rules | `(tactic| o_head $_) => `(tactic| assumption)
set_option maxRecDepth 100000 in
set_option maxHeartbeats 8000000 in
theorem hd (h : PySem.Challenge.rw_ov0057_01.row.Holds) : PySem.Challenge.rw_ov0057_01.row.Holds := by
  k_head
end
set_option maxRecDepth 100000 in
noncomputable def KK (P : Params) : Frag := by
  apply fun (K : Frag) (_ : K = hd.heap_1 P) => K
  delta hd.heap_1
  exact rfl
end Mine

namespace Mine
abbrev Led := List (Addr × Obj)
noncomputable abbrev LP : Program := PySem.Challenge.rw_ov0057_01.prog
def Touch (_ : OpenLaw) (_ : Params → Frag) : Prop := True

/-- what a call's rest asks -/
def Ret (h₀ : Heap) (L : Addr) (m : Str → Option Value) (news : Led) (s : Shared) (Out : Led → Led → Value → Prop) (Q : Value → Shared → Prop) : Prop :=
  ∀ r tl h' tk', Fr h₀ L h' m → News h₀ L h' (tl ++ news) → OwnOff tl (news.map (·.1)) → Out news tl r → Q r { s with heap := h', toks := tk' }
/-- a contract of the def at f -/
def Con (w : World) (p : Program) (loose : List Str) (mean : ExcName → Option Value) (mg mb : Str → Option Value) (f : Addr) (dd du : Nat) (Rel : Led → List Value → Prop) (Out : Led → Led → Value → Prop) : Prop :=
  ∀ (dp un : Nat) (gd : Option (List Code)) (cn : Str) (cs : Scope) (a : Addr) (ccd : Value) (cl : List (Str × Addr)) (outer : List Env) (A₀ : Around) (base h₀ : Heap) (L : Addr) (m : Str → Option Value) (news : Led) (s : Shared) (vs : List Value)
    (Q E : Value → Shared → Prop),
    Below A₀ base outer h₀ → Fr h₀ L s.heap m → (KK w.params).In h₀ → News h₀ L s.heap news → Top p loose mean mg mb h₀ → cs.kind = .function → Rel news vs → dp + dd < recursionLimit → un + du < cLine →
    Ret h₀ L m news s Out Q →
    wpAny (model LP w) (ktrTop dp un gd cn cs L a ccd cl outer) (call (.ref f) vs) Q E s

/-- the end of a def's body -/
def Ends (g : Heap) (s : Shared) (news : Led) (Out : Led → Led → Value → Prop) (fl : Flow) (s' : Shared) : Prop :=
  ∃ r L' h' tk' m' tl, fl = .ret r ∧ s' = { s with heap := h', toks := tk' } ∧ Fr g L' h' m' ∧ News g L' h' (tl ++ news) ∧ OwnOff tl (news.map (·.1)) ∧ Out news tl r

section
variable {w : World} {p : Program} {loose : List Str} {mean : ExcName → Option Value} {mg mb : Str → Option Value}
theorem Con.use {f : Addr} {dd du : Nat} {Rel : Led → List Value → Prop} {Out : Led → Led → Value → Prop} (C : Con w p loose mean mg mb f dd du Rel Out)
    {dp un : Nat} {gd : Option (List Code)} {cn : Str} {cs : Scope} {a : Addr} {ccd : Value} {cl : List (Str × Addr)} {outer : List Env} {A₀ : Around} {base h₀ : Heap} {L : Addr} {m : Str → Option Value} {news : Led} {s : Shared} {vs : List Value}
    {Q E : Value → Shared → Prop} (B : Below A₀ base outer h₀) (F : Fr h₀ L s.heap m) (X : (KK w.params).In h₀) (N : News h₀ L s.heap news) (T : Top p loose mean mg mb h₀) (hk : cs.kind = .function) (hR : Rel news vs) (hd : dp + dd < recursionLimit) (hu : un + du < cLine)
    (ret : ∀ r tl h' tk', Fr h₀ L h' m → News h₀ L h' (tl ++ news) → OwnOff tl (news.map (·.1)) → Out news tl r → Q r { s with heap := h', toks := tk' }) :
    wpAny (model LP w) (ktrTop dp un gd cn cs L a ccd cl outer) (call (.ref f) vs) Q E s := C _ _ _ _ _ _ _ _ _ _ _ _ _ _ _ _ _ _ _ B F X N T hk hR hd hu ret

theorem Con.useV {f : Addr} {dd du : Nat} {Rel : Led → List Value → Prop} {Out : Value → Prop} (C : Con w p loose mean mg mb f dd du Rel (fun _ _ r => Out r))
    {dp un : Nat} {gd : Option (List Code)} {cn : Str} {cs : Scope} {a : Addr} {ccd : Value} {cl : List (Str × Addr)} {outer : List Env} {A₀ : Around} {base h₀ : Heap} {L : Addr} {m : Str → Option Value} {news : Led} {s : Shared} {vs : List Value}
    {Q E : Value → Shared → Prop} (B : Below A₀ base outer h₀) (F : Fr h₀ L s.heap m) (X : (KK w.params).In h₀) (N : News h₀ L s.heap news) (T : Top p loose mean mg mb h₀) (hk : cs.kind = .function) (hR : Rel news vs) (hd : dp + dd < recursionLimit) (hu : un + du < cLine)
    (ret : ∀ r h' tk', Fr h₀ L h' m → News h₀ L h' news → Out r → Q r { s with heap := h', toks := tk' }) :
    wpAny (model LP w) (ktrTop dp un gd cn cs L a ccd cl outer) (call (.ref f) vs) Q E s :=
  C _ _ _ _ _ _ _ _ _ _ _ _ _ _ _ _ _ _ _ B F X N T hk hR hd hu fun r _ h' tk' F' N' _ o => ret r h' tk' F' (fun p hp => N' p (List.mem_append.mpr (.inr hp))) o

theorem Ends.intro {g : Heap} {s : Shared} {news all : Led} {Out : Led → Led → Value → Prop} {r : Value} {L' : Addr} {h' : Heap} {tk' : Nat} {m' : Str → Option Value} (tl : Led) (F : Fr g L' h' m') (N : News g L' h' all) (sub : ∀ p ∈ tl ++ news, p ∈ all) (off : OwnOff tl (news.map (·.1))) (o : Out news tl r) :
    Ends g s news Out (.ret r) { s with heap := h', toks := tk' } := ⟨r, L', h', tk', m', tl, rfl, rfl, F, fun p hp => N p (sub p hp), off, o⟩
theorem Ends.intro0 {g : Heap} {s : Shared} {news all : Led} {Out : Led → Led → Value → Prop} {r : Value} {L' : Addr} {h' : Heap} {tk' : Nat} {m' : Str → Option Value} (F : Fr g L' h' m') (N : News g L' h' all) (sub : ∀ p ∈ news, p ∈ all) (o : Out news [] r) :
    Ends g s news Out (.ret r) { s with heap := h', toks := tk' } := ⟨r, L', h', tk', m', [], rfl, rfl, F, fun p hp => N p (sub p hp), (fun _ h => nomatch h), o⟩

theorem enterC {dp un : Nat} {gd : Option (List Code)} {cn : Str} {cs : Scope} {a : Addr} {ccd : Value} {cl : List (Str × Addr)} {outer : List Env} {A₀ : Around} {base h₀ : Heap} {L : Addr} {m : Str → Option Value} {news : Led} {s : Shared}
    {Q E : Value → Shared → Prop} {name qual : Str} {params : Arguments} {body : List Stmt} {scope : Scope} {dV kV doc pm cdv ct oc : Value} {an od : Option Addr} {osl : Array (Option Value)} {f : Addr} {vs : List Value} {Out : Led → Led → Value → Prop} (binds : List (Str × Value))
    (B : Below A₀ base outer h₀) (F : Fr h₀ L s.heap m) (X₀ : (KK w.params).In h₀) (N : News h₀ L s.heap news) (T : Top p loose mean mg mb h₀) (hke : cs.kind = .function) (hroom : dp < recursionLimit)
    (ret : Ret h₀ L m news s Out Q)
    (ho : (KK w.params).lookup f = some ⟨oc, od, .func (fnOf name qual params body scope dV kV doc pm an cdv ct), osl⟩) (hcd : codeIn (KK w.params) cdv qual = true)
    (hbind : bindArgs (fnOf name qual params body scope dV kV doc pm an cdv ct) ⟨vs, []⟩ = pure binds) (hloc : (binds.all fun x => decide (scope.names.lookup x.1 = some .local)) = true)
    (hco : scope.isCoroutine = false) (hgen : scope.isGenerator = false) (hk : scope.kind = .function) (hcell : ∀ x ∈ scope.names, x.2 ≠ .cell)
    (h : ∀ g L' h₁ tk, Fr g L' h₁ (fun y => binds.reverse.lookup y) → News g L' h₁ news → Below (ktrTop dp un gd cn cs L a ccd cl outer) base (envX cn cs L a ccd cl :: outer) g → (KK w.params).In g → Top p loose mean mg mb g →
      wpAny (model LP w) (ktrTop (dp + 1) (un + 3) gd qual scope L' f cdv [] (envX cn cs L a ccd cl :: outer)) (execs body (envX qual scope L' f cdv []))
        (Ends g s news Out) (fun _ _ => False) { s with heap := h₁, toks := tk }) :
    wpAny (model LP w) (ktrTop dp un gd cn cs L a ccd cl outer) (call (.ref f) vs) Q E s := by
  refine wpAny_call (code_def (env := envX cn cs L a ccd cl) B F X₀ N T rfl rfl hke ho hcd hroom (BindsTo.of_eq hbind) (locs hloc) (fun g L' h₁ FG F' N' B' X' T' => ?_) hco hgen hk hcell)
  refine wpAny_mono (h g L' h₁ _ F' N' B' X' T') (fun fl s' hq => ?_) fun _ _ x => x.elim
  obtain ⟨r, L'', h', tk', m', tl, rfl, rfl, F2, N2, off, o⟩ := hq
  exact ⟨L'', m', tl ++ news, F2, N2, fun F3 N3 => ret r tl h' tk' F3 N3 off o⟩
end

/-- a pair (n, d) at v -/
inductive IsQ (news : Led) : Value → Int → Int → Prop where
  | mk {a : Addr} {n d : Int} {t u : Tok} {k : Nat} : (a, ({ cls := .type "tuple", data := .seq #[.int n t, .int d u] k } : Obj)) ∈ news → IsQ news (.ref a) n d
theorem IsQ.mono {news news' : Led} {v : Value} {n d : Int} (h : IsQ news v n d) (hs : ∀ p ∈ news, p ∈ news') : IsQ news' v n d := by
  cases h with
  | mk h => exact .mk (hs _ h)

variable {w : World} {p : Program} {loose : List Str} {mean : ExcName → Option Value} {mg mb : Str → Option Value}
local macro_rules | `(tactic| walk_at "eval Call") => `(tactic| ((with_reducible show wpAny _ _ (eval (Expr.Call (Expr.Name _ _) _ [] _) _) _ _ _); k_dflt (refine Call_ ?_)))
local macro_rules | `(tactic| walk_at "pyIter ref") => `(tactic| k_extra "pyIter ref")
local macro_rules | `(tactic| walk_at "exec For") => `(tactic| (k_here; (rename Fr _ _ _ _ => lF'); (with_unfolding_all refine' For_invVF lF' ?k1 ?k2 ?_; (case k1 => exact rfl); (case k2 => exact rfl); k_whole)))
local macro_rules | `(tactic| walk_at "exec For Name Name cons nil") => `(tactic| (k_here; (rename Fr _ _ _ _ => lF'); (with_unfolding_all refine' For_invVF lF' ?k1 ?k2 ?_; (case k1 => exact rfl); (case k2 => exact rfl); k_whole)))
local macro_rules | `(tactic| walk_at "exec For Name Call cons nil") => `(tactic| (k_here; (rename Fr _ _ _ _ => lF'); (with_unfolding_all refine' For_invVF lF' ?k1 ?k2 ?_; (case k1 => exact rfl); (case k2 => exact rfl); k_whole)))

theorem gcd_step {a b : Int} (h : 0 < b) : 0 ≤ a.fmod b ∧ a.fmod b < b ∧ Int.gcd b (a.fmod b) = Int.gcd a b := by
  have e : a.fmod b = a % b := Int.fmod_eq_emod_of_nonneg _ (Int.le_of_lt h)
  rw [e]
  refine ⟨Int.emod_nonneg _ (by omega), Int.emod_lt_of_pos _ h, ?_⟩
  rw [Int.gcd_comm a b]
  conv => rhs; rw [← Int.emod_add_mul_ediv a b]
  exact (Int.gcd_add_mul_left_right ..).symm
theorem gcd_turn {a b x y : Int} (h : 0 < b) (e : Int.gcd a b = Int.gcd x y) : 0 ≤ b ∧ 0 ≤ a.fmod b ∧ Int.gcd b (a.fmod b) = Int.gcd x y :=
  ⟨Int.le_of_lt h, (gcd_step h).1, (gcd_step h).2.2.trans e⟩
theorem gcd_less {a b : Int} (h : 0 < b) : (a.fmod b).toNat < b.toNat := by have := gcd_step (a := a) h; omega
theorem gcd_end {a b x y : Int} (ha : 0 ≤ a) (hb : 0 ≤ b) (h : ¬ 0 < b) (e : Int.gcd a b = Int.gcd x y) : a = (Int.gcd x y : Int) := by
  have : b = 0 := by omega
  subst this
  rw [← e, Int.gcd_zero_right]
  omega
theorem gcd_pos {n d : Int} (h : 0 < d) : 0 < (Int.gcd n d : Int) := by
  have : 0 < Int.gcd n d := Int.gcd_pos_of_ne_zero_right _ (by omega)
  omega
theorem gcd_le {n d : Int} (h : 0 < d) : (Int.gcd n d : Int) ≤ d := Int.le_of_dvd h (Int.gcd_dvd_right ..)
theorem gcd_end2 {a b x y : Int} (ha : 0 ≤ a) (hb : 0 ≤ b) (h : ¬ 0 < b) (e : Int.gcd a b = Int.gcd x y) : a = (Int.gcd x y : Int) ∧ (0 < y → 0 < a ∧ a ≤ y) := by
  have q := gcd_end ha hb h e
  subst q
  exact ⟨rfl, fun hy => ⟨gcd_pos hy, gcd_le hy⟩⟩
set_option maxHeartbeats 4000000 in
theorem gcd_con (x y : Int) : Con w p loose mean mg mb 62 3 100 (fun _ vs => ∃ t u, vs = [.int x t, .int y u] ∧ 0 ≤ x ∧ 0 ≤ y) (fun _ _ r => ∃ (c : Int) (t : Tok), r = .int c t ∧ c = Int.gcd x y ∧ (0 < y → 0 < c ∧ c ≤ y)) := by
  unfold Con
  intro dp un gd cn cs a ccd cl outer A₀ base h₀ L m news s vs Q E B F X N T hk hR hd hu hret
  obtain ⟨t, u, rfl, hx, hy⟩ := hR
  have hT : Touch PySem.Challenge.rw_ov0057_01 KK := by (k_fill; trivial)
  clear hT
  k_with_none
  k_with "exec While Compare cons nil" => k_while (fun _ a b => 0 ≤ a ∧ 0 ≤ b ∧ Int.gcd a b = Int.gcd x y) (fun _ a b => b.toNat) "a" "b"
  k_with "state" => exact gcd_turn (by assumption) (by assumption)
  k_with "measure" => exact gcd_less (by assumption)
  k_dflt (refine' enterC [(Str.ofString "a", .int x t), (Str.ofString "b", .int y u)] B F X N T hk ?k8 hret ?k6 ?k7 ?k9 ?kB ?c2 ?c3 ?c4 ?c5 ?_; (case k8 => omega); (case k6 => k_is); (case k7 => k_is); (case k9 => exact rfl); (case kB => exact rfl); (case c2 => exact rfl); (case c3 => exact rfl); (case c4 => exact rfl); (case c5 => decide))
  clear B F X N T hret Q E hk A₀ m
  intro g L' h' tk' F' N' B' X' T'
  (try dsimp only [List.reverse, List.reverseAux] at F'); (try k_fold)
  k_steps
  refine Ends.intro0 (by assumption) (by assumption) (fun _ h => h) ⟨_, _, rfl, ?_⟩
  exact gcd_end2 (by assumption) (by assumption) (by omega) (by assumption)
local macro_rules | `(tactic| walk_at "call ref") => `(tactic| (k_dflt (refine' Con.useV (gcd_con _ _) ?B ?F ?X ?N ?T ?K ?R ?d ?u ?_; (case B => k_asm); (case F => k_asm); (case X => k_asm); (case N => k_asm); (case T => k_asm); (case K => exact rfl); (case R => (refine' ⟨_, _, rfl, ?o1, ?o2⟩; (case o1 => first | omega | assumption | exact q_pos (by omega) (by omega) | exact q_lt (by omega) (by omega) (by omega) (by omega)); (case o2 => first | omega | assumption | exact q_pos (by omega) (by omega) | exact q_lt (by omega) (by omega) (by omega) (by omega)))); (case d => omega); (case u => omega)); k_whole; intro r' h' tk' F' N' out'; (try dsimp only at out'); (try (obtain ⟨c', t', e', hc', hc2'⟩ := out')); (try subst e'); (try subst out'); (try k_sweep); (try dsimp only)))


theorem off_one {news : Led} {D : Addr} {o : Obj} (h : ∀ p ∈ news, p.1 < D) : OwnOff [(D, o)] (news.map (·.1)) := by
  intro p hp b hb
  obtain ⟨q, hq, rfl⟩ := List.mem_map.mp hb
  rw [List.mem_singleton.mp hp]
  exact Nat.ne_of_gt (h q hq)
theorem off_sub {tl news news' : Led} (h : OwnOff tl (news'.map (·.1))) (s : ∀ p ∈ news, p ∈ news') : OwnOff tl (news.map (·.1)) := by
  intro p hp b hb
  obtain ⟨q, hq, rfl⟩ := List.mem_map.mp hb
  exact h p hp _ (List.mem_map.mpr ⟨q, s q hq, rfl⟩)
theorem off_app {a b : Led} {adr : List Addr} (h : OwnOff a adr) (k : OwnOff b adr) : OwnOff (a ++ b) adr := by
  intro p hp c hc
  rcases List.mem_append.mp hp with hp | hp
  · exact h p hp c hc
  · exact k p hp c hc
theorem Ends.one {g : Heap} {s : Shared} {news : Led} {Out : Led → Led → Value → Prop} {D : Addr} {o : Obj} {L' : Addr} {h' : Heap} {tk' : Nat} {m' : Str → Option Value} (F : Fr g L' h' m') (N : News g L' h' ((D, o) :: news)) (l : ∀ p ∈ news, p.1 < D) (out : Out news [(D, o)] (.ref D)) :
    Ends g s news Out (.ret (.ref D)) { s with heap := h', toks := tk' } := Ends.intro [(D, o)] F N (fun _ h => h) (off_one l) out
theorem Ends.tl {g : Heap} {s : Shared} {news tl : Led} {Out : Led → Led → Value → Prop} {r : Value} {L' : Addr} {h' : Heap} {tk' : Nat} {m' : Str → Option Value} (F : Fr g L' h' m') (N : News g L' h' (tl ++ news)) (off : OwnOff tl (news.map (·.1))) (out : Out news tl r) :
    Ends g s news Out (.ret r) { s with heap := h', toks := tk' } := Ends.intro tl F N (fun _ h => h) off out
theorem Ends.tl2 {g : Heap} {s : Shared} {news tl tl2 : Led} {Out : Led → Led → Value → Prop} {r : Value} {L' : Addr} {h' : Heap} {tk' : Nat} {m' : Str → Option Value} (F : Fr g L' h' m') (N : News g L' h' (tl2 ++ (tl ++ news))) (off2 : OwnOff tl2 ((tl ++ news).map (·.1))) (off : OwnOff tl (news.map (·.1))) (out : Out news (tl2 ++ tl) r) :
    Ends g s news Out (.ret r) { s with heap := h', toks := tk' } :=
  Ends.intro (tl2 ++ tl) F N (fun p hp => by rw [List.append_assoc] at hp; exact hp) (off_app (off_sub off2 fun _ h => List.mem_append.mpr (.inr h)) off) out
theorem q_pos {a b : Int} (h : 0 < a) (k : 0 < b) : 0 < a * b := Int.mul_pos h k
theorem q_lt {a b : Int} (h : 0 < a) (k : 0 < b) (ha : a < 2 ^ 14) (hb : b < 2 ^ 14) : a * b < 2 ^ 30 := by
  have h1 : a * b ≤ a * 2 ^ 14 := Int.mul_le_mul_of_nonneg_left (by omega) (by omega)
  omega
def lowN (n d : Int) : Int := n.fdiv (Int.gcd n d)
def lowD (n d : Int) : Int := d.fdiv (Int.gcd n d)
theorem gcd_abs (n d : Int) : Int.gcd (if n < 0 then -n else n) d = Int.gcd n d := by
  split
  · rw [Int.neg_gcd]
  · rfl
theorem IsQ.mk2 {news : Led} {a : Addr} {n d n' d' : Int} {t u : Tok} {k : Nat} (h : (a, ({ cls := .type "tuple", data := .seq #[.int n' t, .int d' u] k } : Obj)) ∈ news) (e : n' = n) (f : d' = d) : IsQ news (.ref a) n d := by
  subst e f
  exact .mk h
theorem low_eqN {n d c : Int} (h : c = Int.gcd (if n < 0 then -n else n) d) : n.fdiv c = lowN n d := by
  rw [h, gcd_abs]; rfl
theorem low_eqD {n d c : Int} (h : c = Int.gcd (if n < 0 then -n else n) d) : d.fdiv c = lowD n d := by
  rw [h, gcd_abs]; rfl
set_option maxHeartbeats 4000000 in
theorem make_con (n d : Int) : Con w p loose mean mg mb 69 6 200 (fun _ vs => ∃ t u, vs = [.int n t, .int d u] ∧ 0 < d ∧ d < 2 ^ 30) (fun _ nw r => IsQ nw r (lowN n d) (lowD n d)) := by
  unfold Con
  intro dp un gd cn cs a ccd cl outer A₀ base h₀ L m news s vs Q E B F X N T hk hR hd hu hret
  obtain ⟨t, u, rfl, hx, hy⟩ := hR
  have hT : Touch PySem.Challenge.rw_ov0057_01 KK := by (k_fill; trivial)
  clear hT
  k_with_none
  k_dflt (refine' enterC [(Str.ofString "n", .int n t), (Str.ofString "d", .int d u)] B F X N T hk ?k8 hret ?k6 ?k7 ?k9 ?kB ?c2 ?c3 ?c4 ?c5 ?_; (case k8 => omega); (case k6 => k_is); (case k7 => k_is); (case k9 => exact rfl); (case kB => exact rfl); (case c2 => exact rfl); (case c3 => exact rfl); (case c4 => exact rfl); (case c5 => decide))
  clear B F X N T hret Q E hk A₀ m
  intro g L' h' tk' F' N' B' X' T'
  (try dsimp only [List.reverse, List.reverseAux] at F'); (try k_fold)
  k_steps
  all_goals (try (exfalso; omega))
  refine Ends.one (by assumption) (by assumption) (by assumption) (IsQ.mk2 (.head _) (low_eqN (by assumption)) (low_eqD (by assumption)))
local macro_rules | `(tactic| walk_at "call ref") => `(tactic| (k_dflt (refine' Con.use (make_con _ _) ?B ?F ?X ?N ?T ?K ?R ?d ?u ?_; (case B => k_asm); (case F => k_asm); (case X => k_asm); (case N => k_asm); (case T => k_asm); (case K => exact rfl); (case R => (refine' ⟨_, _, rfl, ?o1, ?o2⟩; (case o1 => first | omega | assumption | exact q_pos (by omega) (by omega) | exact q_lt (by omega) (by omega) (by omega) (by omega)); (case o2 => first | omega | assumption | exact q_pos (by omega) (by omega) | exact q_lt (by omega) (by omega) (by omega) (by omega)))); (case d => omega); (case u => omega)); k_whole; intro r' tl' h' tk' F' N' off' out'; (try dsimp only at out'); (cases out'); (try subst e'); (try subst out'); (try k_sweep); (try dsimp only)))


/-- a pair at v, or the constant ZERO -/
def IsV (news : Led) (v : Value) (n d : Int) : Prop := IsQ news v n d ∨ (v = .ref 55 ∧ n = 0 ∧ d = 1)
theorem IsQ.out {news : Led} {v : Value} {n d : Int} (h : IsQ news v n d) : ∃ (a : Addr) (t u : Tok) (k : Nat), v = .ref a ∧ (a, ({ cls := .type "tuple", data := .seq #[.int n t, .int d u] k } : Obj)) ∈ news := by
  cases h with
  | mk h => exact ⟨_, _, _, _, rfl, h⟩
/-- the numbers that the program may multiply here -/
def Sm (n d : Int) : Prop := -(2 ^ 14) < n ∧ n < 2 ^ 14 ∧ 0 < d ∧ d < 2 ^ 14
set_option maxHeartbeats 4000000 in
theorem from_int_con (n : Int) : Con w p loose mean mg mb 76 3 100 (fun _ vs => ∃ t, vs = [.int n t]) (fun _ nw r => IsQ nw r n 1) := by
  unfold Con
  intro dp un gd cn cs a ccd cl outer A₀ base h₀ L m news s vs Q E B F X N T hk hR hd hu hret
  obtain ⟨t, rfl⟩ := hR
  have hT : Touch PySem.Challenge.rw_ov0057_01 KK := by (k_fill; trivial)
  clear hT
  k_with_none
  k_dflt (refine' enterC [(Str.ofString "n", .int n t)] B F X N T hk ?k8 hret ?k6 ?k7 ?k9 ?kB ?c2 ?c3 ?c4 ?c5 ?_; (case k8 => omega); (case k6 => k_is); (case k7 => k_is); (case k9 => exact rfl); (case kB => exact rfl); (case c2 => exact rfl); (case c3 => exact rfl); (case c4 => exact rfl); (case c5 => decide))
  clear B F X N T hret Q E hk A₀ m
  intro g L' h' tk' F' N' B' X' T'
  (try dsimp only [List.reverse, List.reverseAux] at F'); (try k_fold)
  k_steps
  refine Ends.one (by assumption) (by assumption) (by assumption) (IsQ.mk (.head _))
set_option maxHeartbeats 4000000 in
theorem is_na_con (n d : Int) : Con w p loose mean mg mb 83 3 100 (fun nw vs => ∃ v, vs = [v] ∧ IsV nw v n d ∧ 0 < d) (fun _ _ r => r = .bool false) := by
  unfold Con
  intro dp un gd cn cs a ccd cl outer A₀ base h₀ L m news s vs Q E B F X N T hk hR hd hu hret
  obtain ⟨v, rfl, hv, h0⟩ := hR
  have hT : Touch PySem.Challenge.rw_ov0057_01 KK := by (k_fill; trivial)
  clear hT
  k_with_none
  rcases hv with hv | ⟨rfl, rfl, rfl⟩
  · obtain ⟨va, t, u, k, rfl, hm⟩ := hv.out
    k_dflt (refine' enterC [(Str.ofString "x", .ref va)] B F X N T hk ?k8 hret ?k6 ?k7 ?k9 ?kB ?c2 ?c3 ?c4 ?c5 ?_; (case k8 => omega); (case k6 => k_is); (case k7 => k_is); (case k9 => exact rfl); (case kB => exact rfl); (case c2 => exact rfl); (case c3 => exact rfl); (case c4 => exact rfl); (case c5 => decide))
    clear B F X N T hret Q E hk A₀ m
    intro g L' h' tk' F' N' B' X' T'
    (try dsimp only [List.reverse, List.reverseAux] at F'); (try k_fold)
    k_steps
    all_goals (try (exfalso; omega))
    all_goals (refine Ends.intro0 (by assumption) (by assumption) (fun _ h => h) ?_)
    all_goals (exact congrArg Value.bool (by (simp only [beq_eq_false_iff_ne, ne_eq, decide_eq_true_eq]; omega)))
  · skip
    k_dflt (refine' enterC [(Str.ofString "x", .ref 55)] B F X N T hk ?k8 hret ?k6 ?k7 ?k9 ?kB ?c2 ?c3 ?c4 ?c5 ?_; (case k8 => omega); (case k6 => k_is); (case k7 => k_is); (case k9 => exact rfl); (case kB => exact rfl); (case c2 => exact rfl); (case c3 => exact rfl); (case c4 => exact rfl); (case c5 => decide))
    clear B F X N T hret Q E hk A₀ m
    intro g L' h' tk' F' N' B' X' T'
    (try dsimp only [List.reverse, List.reverseAux] at F'); (try k_fold)
    k_steps
    all_goals (dsimp only; k_unfold)
    refine Ends.intro0 (by assumption) (by assumption) (fun _ h => h) rfl
set_option maxHeartbeats 4000000 in
theorem is_nan_con (n d : Int) : Con w p loose mean mg mb 90 3 100 (fun nw vs => ∃ v, vs = [v] ∧ IsQ nw v n d ∧ 0 < d) (fun _ _ r => r = .bool false) := by
  unfold Con
  intro dp un gd cn cs a ccd cl outer A₀ base h₀ L m news s vs Q E B F X N T hk hR hd hu hret
  obtain ⟨v, rfl, hv, h0⟩ := hR
  have hT : Touch PySem.Challenge.rw_ov0057_01 KK := by (k_fill; trivial)
  clear hT
  k_with_none
  obtain ⟨va, t, u, k, rfl, hm⟩ := hv.out
  k_dflt (refine' enterC [(Str.ofString "x", .ref va)] B F X N T hk ?k8 hret ?k6 ?k7 ?k9 ?kB ?c2 ?c3 ?c4 ?c5 ?_; (case k8 => omega); (case k6 => k_is); (case k7 => k_is); (case k9 => exact rfl); (case kB => exact rfl); (case c2 => exact rfl); (case c3 => exact rfl); (case c4 => exact rfl); (case c5 => decide))
  clear B F X N T hret Q E hk A₀ m
  intro g L' h' tk' F' N' B' X' T'
  (try dsimp only [List.reverse, List.reverseAux] at F'); (try k_fold)
  k_steps
  all_goals (try (exfalso; omega))
  all_goals (refine Ends.intro0 (by assumption) (by assumption) (fun _ h => h) ?_)
  all_goals (exact congrArg Value.bool (by (simp only [beq_eq_false_iff_ne, ne_eq, decide_eq_true_eq]; omega)))
set_option maxHeartbeats 4000000 in
theorem is_finite_con (n d : Int) : Con w p loose mean mg mb 97 3 100 (fun nw vs => ∃ v, vs = [v] ∧ IsQ nw v n d ∧ 0 < d) (fun _ _ r => r = .bool true) := by
  unfold Con
  intro dp un gd cn cs a ccd cl outer A₀ base h₀ L m news s vs Q E B F X N T hk hR hd hu hret
  obtain ⟨v, rfl, hv, h0⟩ := hR
  have hT : Touch PySem.Challenge.rw_ov0057_01 KK := by (k_fill; trivial)
  clear hT
  k_with_none
  obtain ⟨va, t, u, k, rfl, hm⟩ := hv.out
  k_dflt (refine' enterC [(Str.ofString "x", .ref va)] B F X N T hk ?k8 hret ?k6 ?k7 ?k9 ?kB ?c2 ?c3 ?c4 ?c5 ?_; (case k8 => omega); (case k6 => k_is); (case k7 => k_is); (case k9 => exact rfl); (case kB => exact rfl); (case c2 => exact rfl); (case c3 => exact rfl); (case c4 => exact rfl); (case c5 => decide))
  clear B F X N T hret Q E hk A₀ m
  intro g L' h' tk' F' N' B' X' T'
  (try dsimp only [List.reverse, List.reverseAux] at F'); (try k_fold)
  k_steps
  all_goals (try (exfalso; omega))
  all_goals (refine Ends.intro0 (by assumption) (by assumption) (fun _ h => h) ?_)
  all_goals (exact congrArg Value.bool (by (simp only [beq_eq_false_iff_ne, ne_eq, decide_eq_true_eq]; omega)))
set_option maxHeartbeats 4000000 in
theorem neg_con (n d : Int) : Con w p loose mean mg mb 111 3 100 (fun nw vs => ∃ v, vs = [v] ∧ IsQ nw v n d) (fun _ nw r => IsQ nw r (0 - n) d) := by
  unfold Con
  intro dp un gd cn cs a ccd cl outer A₀ base h₀ L m news s vs Q E B F X N T hk hR hd hu hret
  obtain ⟨v, rfl, hv⟩ := hR
  have hT : Touch PySem.Challenge.rw_ov0057_01 KK := by (k_fill; trivial)
  clear hT
  k_with_none
  obtain ⟨va, t, u, k, rfl, hm⟩ := hv.out
  k_dflt (refine' enterC [(Str.ofString "x", .ref va)] B F X N T hk ?k8 hret ?k6 ?k7 ?k9 ?kB ?c2 ?c3 ?c4 ?c5 ?_; (case k8 => omega); (case k6 => k_is); (case k7 => k_is); (case k9 => exact rfl); (case kB => exact rfl); (case c2 => exact rfl); (case c3 => exact rfl); (case c4 => exact rfl); (case c5 => decide))
  clear B F X N T hret Q E hk A₀ m
  intro g L' h' tk' F' N' B' X' T'
  (try dsimp only [List.reverse, List.reverseAux] at F'); (try k_fold)
  k_steps
  all_goals (refine Ends.one (by assumption) (by assumption) (by assumption) (IsQ.mk (.head _)))
local macro_rules | `(tactic| walk_at "call ref") => `(tactic| (k_dflt (refine' Con.use (from_int_con _) ?B ?F ?X ?N ?T ?K ?R ?d ?u ?_; (case B => k_asm); (case F => k_asm); (case X => k_asm); (case N => k_asm); (case T => k_asm); (case K => exact rfl); (case R => (refine' ⟨_, rfl⟩)); (case d => omega); (case u => omega)); k_whole; intro r' tl' h' tk' F' N' off' out'; (try dsimp only at out'); (cases out'); (try subst e'); (try subst out'); (try k_sweep); (try dsimp only)))
local macro_rules | `(tactic| walk_at "call ref") => `(tactic| (k_dflt (refine' Con.useV (is_na_con _ _) ?B ?F ?X ?N ?T ?K ?R ?d ?u ?_; (case B => k_asm); (case F => k_asm); (case X => k_asm); (case N => k_asm); (case T => k_asm); (case K => exact rfl); (case R => (refine' ⟨_, rfl, Or.inr ⟨rfl, rfl, rfl⟩, ?o1⟩; (case o1 => first | omega | assumption | exact q_pos (by omega) (by omega) | exact q_lt (by omega) (by omega) (by omega) (by omega)))); (case d => omega); (case u => omega)); k_whole; intro r' h' tk' F' N' out'; (try dsimp only at out'); (try subst e'); (try subst out'); (try k_sweep); (try dsimp only)))
local macro_rules | `(tactic| walk_at "call ref") => `(tactic| (k_dflt (refine' Con.useV (is_na_con _ _) ?B ?F ?X ?N ?T ?K ?R ?d ?u ?_; (case B => k_asm); (case F => k_asm); (case X => k_asm); (case N => k_asm); (case T => k_asm); (case K => exact rfl); (case R => (refine' ⟨_, rfl, Or.inl (IsQ.mk ?m1), ?o1⟩; (case m1 => k_mem); (case o1 => first | omega | assumption | exact q_pos (by omega) (by omega) | exact q_lt (by omega) (by omega) (by omega) (by omega)))); (case d => omega); (case u => omega)); k_whole; intro r' h' tk' F' N' out'; (try dsimp only at out'); (try subst e'); (try subst out'); (try k_sweep); (try dsimp only)))
local macro_rules | `(tactic| walk_at "call ref") => `(tactic| (k_dflt (refine' Con.useV (is_nan_con _ _) ?B ?F ?X ?N ?T ?K ?R ?d ?u ?_; (case B => k_asm); (case F => k_asm); (case X => k_asm); (case N => k_asm); (case T => k_asm); (case K => exact rfl); (case R => (refine' ⟨_, rfl, IsQ.mk ?m1, ?o1⟩; (case m1 => k_mem); (case o1 => first | omega | assumption | exact q_pos (by omega) (by omega) | exact q_lt (by omega) (by omega) (by omega) (by omega)))); (case d => omega); (case u => omega)); k_whole; intro r' h' tk' F' N' out'; (try dsimp only at out'); (try subst e'); (try subst out'); (try k_sweep); (try dsimp only)))
local macro_rules | `(tactic| walk_at "call ref") => `(tactic| (k_dflt (refine' Con.useV (is_finite_con _ _) ?B ?F ?X ?N ?T ?K ?R ?d ?u ?_; (case B => k_asm); (case F => k_asm); (case X => k_asm); (case N => k_asm); (case T => k_asm); (case K => exact rfl); (case R => (refine' ⟨_, rfl, IsQ.mk ?m1, ?o1⟩; (case m1 => k_mem); (case o1 => first | omega | assumption | exact q_pos (by omega) (by omega) | exact q_lt (by omega) (by omega) (by omega) (by omega)))); (case d => omega); (case u => omega)); k_whole; intro r' h' tk' F' N' out'; (try dsimp only at out'); (try subst e'); (try subst out'); (try k_sweep); (try dsimp only)))
local macro_rules | `(tactic| walk_at "call ref") => `(tactic| (k_dflt (refine' Con.use (neg_con _ _) ?B ?F ?X ?N ?T ?K ?R ?d ?u ?_; (case B => k_asm); (case F => k_asm); (case X => k_asm); (case N => k_asm); (case T => k_asm); (case K => exact rfl); (case R => (refine' ⟨_, rfl, IsQ.mk ?m1⟩; (case m1 => k_mem))); (case d => omega); (case u => omega)); k_whole; intro r' tl' h' tk' F' N' off' out'; (try dsimp only at out'); (cases out'); (try subst e'); (try subst out'); (try k_sweep); (try dsimp only)))


set_option maxHeartbeats 4000000 in
theorem add_con (n d m e : Int) : Con w p loose mean mg mb 118 9 300 (fun nw vs => ∃ v u, vs = [v, u] ∧ IsV nw v n d ∧ IsQ nw u m e ∧ Sm n d ∧ Sm m e) (fun _ nw r => IsQ nw r (lowN (n * e + m * d) (d * e)) (lowD (n * e + m * d) (d * e))) := by
  unfold Con
  intro dp un gd cn cs a ccd cl outer A₀ base h₀ L m news s vs Q E B F X N T hk hR hd hu hret
  obtain ⟨v, u, rfl, hv, hu', hs1, hs2⟩ := hR
  have hT : Touch PySem.Challenge.rw_ov0057_01 KK := by (k_fill; trivial)
  clear hT
  k_with_none
  obtain ⟨ub, t2, u2, k2, rfl, hm2⟩ := hu'.out
  unfold Sm at hs1 hs2
  rcases hv with hv | ⟨rfl, rfl, rfl⟩
  · obtain ⟨va, t, u, k, rfl, hm⟩ := hv.out
    k_dflt (refine' enterC [(Str.ofString "x", .ref va), (Str.ofString "y", .ref ub)] B F X N T hk ?k8 hret ?k6 ?k7 ?k9 ?kB ?c2 ?c3 ?c4 ?c5 ?_; (case k8 => omega); (case k6 => k_is); (case k7 => k_is); (case k9 => exact rfl); (case kB => exact rfl); (case c2 => exact rfl); (case c3 => exact rfl); (case c4 => exact rfl); (case c5 => decide))
    clear B F X N T hret Q E hk A₀ m
    intro g L' h' tk' F' N' B' X' T'
    (try dsimp only [List.reverse, List.reverseAux] at F'); (try k_fold)
    k_steps
    all_goals (try (exfalso; omega))
    exact Ends.tl (by assumption) (by assumption) (by assumption) (IsQ.mk (by assumption))
  · skip
    k_dflt (refine' enterC [(Str.ofString "x", .ref 55), (Str.ofString "y", .ref ub)] B F X N T hk ?k8 hret ?k6 ?k7 ?k9 ?kB ?c2 ?c3 ?c4 ?c5 ?_; (case k8 => omega); (case k6 => k_is); (case k7 => k_is); (case k9 => exact rfl); (case kB => exact rfl); (case c2 => exact rfl); (case c3 => exact rfl); (case c4 => exact rfl); (case c5 => decide))
    clear B F X N T hret Q E hk A₀ m
    intro g L' h' tk' F' N' B' X' T'
    (try dsimp only [List.reverse, List.reverseAux] at F'); (try k_fold)
    k_steps
    all_goals (try (exfalso; omega))
    exact Ends.tl (by assumption) (by assumption) (by assumption) (IsQ.mk (by assumption))
local macro_rules | `(tactic| walk_at "call ref") => `(tactic| (k_dflt (refine' Con.use (add_con _ _ _ _) ?B ?F ?X ?N ?T ?K ?R ?d ?u ?_; (case B => k_asm); (case F => k_asm); (case X => k_asm); (case N => k_asm); (case T => k_asm); (case K => exact rfl); (case R => (refine' ⟨_, _, rfl, ?o1, IsQ.mk ?m2, ?o2, ?o3⟩; (case o1 => first | omega | assumption | exact q_pos (by omega) (by omega) | exact q_lt (by omega) (by omega) (by omega) (by omega)); (case m2 => k_mem); (case o2 => first | omega | assumption | exact q_pos (by omega) (by omega) | exact q_lt (by omega) (by omega) (by omega) (by omega)); (case o3 => first | omega | assumption | exact q_pos (by omega) (by omega) | exact q_lt (by omega) (by omega) (by omega) (by omega)))); (case d => omega); (case u => omega)); k_whole; intro r' tl' h' tk' F' N' off' out'; (try dsimp only at out'); (cases out'); (try subst e'); (try subst out'); (try k_sweep); (try dsimp only)))
local macro_rules | `(tactic| walk_at "call ref") => `(tactic| (k_dflt (refine' Con.use (add_con _ _ _ _) ?B ?F ?X ?N ?T ?K ?R ?d ?u ?_; (case B => k_asm); (case F => k_asm); (case X => k_asm); (case N => k_asm); (case T => k_asm); (case K => exact rfl); (case R => (refine' ⟨_, _, rfl, Or.inl (IsQ.mk ?m1), IsQ.mk ?m2, ?o1, ?o2⟩; (case m1 => k_mem); (case m2 => k_mem); (case o1 => first | omega | assumption | exact q_pos (by omega) (by omega) | exact q_lt (by omega) (by omega) (by omega) (by omega)); (case o2 => first | omega | assumption | exact q_pos (by omega) (by omega) | exact q_lt (by omega) (by omega) (by omega) (by omega)))); (case d => omega); (case u => omega)); k_whole; intro r' tl' h' tk' F' N' off' out'; (try dsimp only at out'); (cases out'); (try subst e'); (try subst out'); (try k_sweep); (try dsimp only)))


section
variable {A : Around} {E : Value → Shared → Prop} {s : Shared} {h₀ : Heap} {L l : Addr} {news : Led} {us : List Value} {n : Nat}
theorem isQ_list {h : Heap} (N : News h₀ L h news) (hm : (l, listOf us.toArray n) ∈ news) : h.IsList l us.toArray := ⟨_, (N _ hm).1, rfl, n, rfl⟩
theorem truthy_ne {Q : Bool → Shared → Prop} (N : News h₀ L s.heap news) (hm : (l, listOf us.toArray n) ∈ news) (h0 : 0 < us.length) (h1 : (us.length : Int) < 2 ^ 63) (h : Q true { s with toks := s.toks + 1 + 1 }) : wpAny (model LP w) A (truthy (.ref l)) Q E s :=
  wpAny_truthy_list (isQ_list N hm) (by simpa using h1) (by
    have e : (!us.toArray.isEmpty) = true := by
      cases us with
      | nil => simp at h0
      | cons _ _ => rfl
    rw [e]; exact h)
theorem len_q {Q : Value → Shared → Prop} (N : News h₀ L s.heap news) (hm : (l, listOf us.toArray n) ∈ news) (h1 : (us.length : Int) < 2 ^ 63) (h : Q (.int (us.length : Int) (s.toks + 1)) { s with toks := s.toks + 1 + 1 }) : wpAny (model LP w) A (call (.builtin "len") [.ref l]) Q E s :=
  len_list (isQ_list N hm) (by simpa using h1) (by simpa using h)
theorem item_q {value slice : PySem.Expr} {k : Int} {u : Tok} {v : Value} {Q : Value → Shared → Prop} (N : News h₀ L s.heap news) (hm : (l, listOf us.toArray n) ∈ news) (h0 : 0 ≤ k) (hfit : k < 2 ^ 63) (hv : us[k.toNat]? = some v) (h : Q v s)
    (hs : subscripted slice false (.ref l) (.int k u) = operate [.ref l, .int k u] (getItem (.ref l) (.int k u)) := by with_unfolding_all rfl) :
    wpAny (model LP w) A (subscriptTail value slice (.ref l) (.int k u)) Q E s :=
  tail_any (isQ_list N hm).typeIs slot_list_getitem.lookup (wpAny_getItem_list (isQ_list N hm) h0 hfit (by simpa using hv) h) hs
end
local macro_rules | `(tactic| walk_at "truthy ref") => `(tactic| (k_dflt (refine' truthy_ne ?N ?m ?z ?f ?_; (case N => k_asm); (case m => k_mem); (case z => omega); (case f => omega); k_whole)))
local macro_rules | `(tactic| walk_at "call builtin:len") => `(tactic| ((with_reducible show wpAny _ _ (call (Value.builtin "len") [Value.ref _]) _ _ _); k_dflt (refine' len_q ?N ?m ?f ?_; (case N => k_asm); (case m => k_mem); (case f => omega); k_whole)))
local macro_rules | `(tactic| walk_at "subscriptTail") => `(tactic| ((with_reducible show wpAny _ _ (subscriptTail _ _ (Value.ref _) (Value.int _ _)) _ _ _); k_dflt (refine' item_q ?N ?m ?z ?f ?v ?_ ?y; (case N => k_asm); (case m => k_mem); (case z => omega); (case f => omega); (case v => assumption); (case y => with_unfolding_all rfl); k_whole)))


set_option maxHeartbeats 4000000 in
theorem mul_con (n d m e : Int) : Con w p loose mean mg mb 132 9 300 (fun nw vs => ∃ v u, vs = [v, u] ∧ IsQ nw v n d ∧ IsQ nw u m e ∧ Sm n d ∧ Sm m e) (fun _ nw r => IsQ nw r (lowN (n * m) (d * e)) (lowD (n * m) (d * e))) := by
  unfold Con
  intro dp un gd cn cs a ccd cl outer A₀ base h₀ L m news s vs Q E B F X N T hk hR hd hu hret
  obtain ⟨v, u, rfl, hv, hu', hs1, hs2⟩ := hR
  have hT : Touch PySem.Challenge.rw_ov0057_01 KK := by (k_fill; trivial)
  clear hT
  k_with_none
  obtain ⟨ub, t2, u2, k2, rfl, hm2⟩ := hu'.out
  obtain ⟨va, t, u, k, rfl, hm⟩ := hv.out
  unfold Sm at hs1 hs2
  k_dflt (refine' enterC [(Str.ofString "x", .ref va), (Str.ofString "y", .ref ub)] B F X N T hk ?k8 hret ?k6 ?k7 ?k9 ?kB ?c2 ?c3 ?c4 ?c5 ?_; (case k8 => omega); (case k6 => k_is); (case k7 => k_is); (case k9 => exact rfl); (case kB => exact rfl); (case c2 => exact rfl); (case c3 => exact rfl); (case c4 => exact rfl); (case c5 => decide))
  clear B F X N T hret Q E hk A₀ m
  intro g L' h' tk' F' N' B' X' T'
  (try dsimp only [List.reverse, List.reverseAux] at F'); (try k_fold)
  k_steps
  exact Ends.tl (by assumption) (by assumption) (by assumption) (IsQ.mk (by assumption))
set_option maxHeartbeats 4000000 in
theorem div_con (n d m e : Int) : Con w p loose mean mg mb 139 9 300 (fun nw vs => ∃ v u, vs = [v, u] ∧ IsQ nw v n d ∧ IsQ nw u m e ∧ Sm n d ∧ Sm m e ∧ 0 < m) (fun _ nw r => IsQ nw r (lowN (n * e) (d * m)) (lowD (n * e) (d * m))) := by
  unfold Con
  intro dp un gd cn cs a ccd cl outer A₀ base h₀ L m news s vs Q E B F X N T hk hR hd hu hret
  obtain ⟨v, u, rfl, hv, hu', hs1, hs2, hp⟩ := hR
  have hT : Touch PySem.Challenge.rw_ov0057_01 KK := by (k_fill; trivial)
  clear hT
  k_with_none
  obtain ⟨ub, t2, u2, k2, rfl, hm2⟩ := hu'.out
  obtain ⟨va, t, u, k, rfl, hm⟩ := hv.out
  unfold Sm at hs1 hs2
  k_dflt (refine' enterC [(Str.ofString "x", .ref va), (Str.ofString "y", .ref ub)] B F X N T hk ?k8 hret ?k6 ?k7 ?k9 ?kB ?c2 ?c3 ?c4 ?c5 ?_; (case k8 => omega); (case k6 => k_is); (case k7 => k_is); (case k9 => exact rfl); (case kB => exact rfl); (case c2 => exact rfl); (case c3 => exact rfl); (case c4 => exact rfl); (case c5 => decide))
  clear B F X N T hret Q E hk A₀ m
  intro g L' h' tk' F' N' B' X' T'
  (try dsimp only [List.reverse, List.reverseAux] at F'); (try k_fold)
  k_steps
  all_goals (try (exfalso; omega))
  exact Ends.tl (by assumption) (by assumption) (by assumption) (IsQ.mk (by assumption))
set_option maxHeartbeats 4000000 in
theorem floor_con (n d : Int) : Con w p loose mean mg mb 146 6 300 (fun nw vs => ∃ v, vs = [v] ∧ IsQ nw v n d ∧ Sm n d) (fun _ nw r => IsQ nw r (n.fdiv d) 1) := by
  unfold Con
  intro dp un gd cn cs a ccd cl outer A₀ base h₀ L m news s vs Q E B F X N T hk hR hd hu hret
  obtain ⟨v, rfl, hv, hs1⟩ := hR
  have hT : Touch PySem.Challenge.rw_ov0057_01 KK := by (k_fill; trivial)
  clear hT
  k_with_none
  obtain ⟨va, t, u, k, rfl, hm⟩ := hv.out
  unfold Sm at hs1
  k_dflt (refine' enterC [(Str.ofString "x", .ref va)] B F X N T hk ?k8 hret ?k6 ?k7 ?k9 ?kB ?c2 ?c3 ?c4 ?c5 ?_; (case k8 => omega); (case k6 => k_is); (case k7 => k_is); (case k9 => exact rfl); (case kB => exact rfl); (case c2 => exact rfl); (case c3 => exact rfl); (case c4 => exact rfl); (case c5 => decide))
  clear B F X N T hret Q E hk A₀ m
  intro g L' h' tk' F' N' B' X' T'
  (try dsimp only [List.reverse, List.reverseAux] at F'); (try k_fold)
  k_steps
  all_goals (try (exfalso; omega))
  refine Ends.one (by assumption) (by assumption) (by assumption) (IsQ.mk (.head _))
theorem Sm.neg {n d : Int} (h : Sm n d) : Sm (0 - n) d := by unfold Sm at h ⊢; omega
set_option maxHeartbeats 4000000 in
theorem sub_con (n d m e : Int) : Con w p loose mean mg mb 125 12 400 (fun nw vs => ∃ v u, vs = [v, u] ∧ IsQ nw v n d ∧ IsQ nw u m e ∧ Sm n d ∧ Sm m e) (fun _ nw r => IsQ nw r (lowN (n * e + (0 - m) * d) (d * e)) (lowD (n * e + (0 - m) * d) (d * e))) := by
  unfold Con
  intro dp un gd cn cs a ccd cl outer A₀ base h₀ L m news s vs Q E B F X N T hk hR hd hu hret
  obtain ⟨v, u, rfl, hv, hu', hs1, hs2⟩ := hR
  have hT : Touch PySem.Challenge.rw_ov0057_01 KK := by (k_fill; trivial)
  clear hT
  k_with_none
  obtain ⟨ub, t2, u2, k2, rfl, hm2⟩ := hu'.out
  obtain ⟨va, t, u, k, rfl, hm⟩ := hv.out
  have hs3 := hs2.neg
  k_dflt (refine' enterC [(Str.ofString "x", .ref va), (Str.ofString "y", .ref ub)] B F X N T hk ?k8 hret ?k6 ?k7 ?k9 ?kB ?c2 ?c3 ?c4 ?c5 ?_; (case k8 => omega); (case k6 => k_is); (case k7 => k_is); (case k9 => exact rfl); (case kB => exact rfl); (case c2 => exact rfl); (case c3 => exact rfl); (case c4 => exact rfl); (case c5 => decide))
  clear B F X N T hret Q E hk A₀ m
  intro g L' h' tk' F' N' B' X' T'
  (try dsimp only [List.reverse, List.reverseAux] at F'); (try k_fold)
  k_steps
  exact Ends.tl2 (by assumption) (by assumption) (by assumption) (by assumption) (IsQ.mk (List.mem_append.mpr (.inl (by assumption))))
local macro_rules | `(tactic| walk_at "call ref") => `(tactic| (k_dflt (refine' Con.use (mul_con _ _ _ _) ?B ?F ?X ?N ?T ?K ?R ?d ?u ?_; (case B => k_asm); (case F => k_asm); (case X => k_asm); (case N => k_asm); (case T => k_asm); (case K => exact rfl); (case R => (refine' ⟨_, _, rfl, IsQ.mk ?m1, IsQ.mk ?m2, ?o1, ?o2⟩; (case m1 => k_mem); (case m2 => k_mem); (case o1 => first | omega | assumption | exact q_pos (by omega) (by omega) | exact q_lt (by omega) (by omega) (by omega) (by omega)); (case o2 => first | omega | assumption | exact q_pos (by omega) (by omega) | exact q_lt (by omega) (by omega) (by omega) (by omega)))); (case d => omega); (case u => omega)); k_whole; intro r' tl' h' tk' F' N' off' out'; (try dsimp only at out'); (cases out'); (try subst e'); (try subst out'); (try k_sweep); (try dsimp only)))
local macro_rules | `(tactic| walk_at "call ref") => `(tactic| (k_dflt (refine' Con.use (div_con _ _ _ _) ?B ?F ?X ?N ?T ?K ?R ?d ?u ?_; (case B => k_asm); (case F => k_asm); (case X => k_asm); (case N => k_asm); (case T => k_asm); (case K => exact rfl); (case R => (refine' ⟨_, _, rfl, IsQ.mk ?m1, IsQ.mk ?m2, ?o1, ?o2, ?o3⟩; (case m1 => k_mem); (case m2 => k_mem); (case o1 => first | omega | assumption | exact q_pos (by omega) (by omega) | exact q_lt (by omega) (by omega) (by omega) (by omega)); (case o2 => first | omega | assumption | exact q_pos (by omega) (by omega) | exact q_lt (by omega) (by omega) (by omega) (by omega)); (case o3 => first | omega | assumption | exact q_pos (by omega) (by omega) | exact q_lt (by omega) (by omega) (by omega) (by omega)))); (case d => omega); (case u => omega)); k_whole; intro r' tl' h' tk' F' N' off' out'; (try dsimp only at out'); (cases out'); (try subst e'); (try subst out'); (try k_sweep); (try dsimp only)))
local macro_rules | `(tactic| walk_at "call ref") => `(tactic| (k_dflt (refine' Con.use (floor_con _ _) ?B ?F ?X ?N ?T ?K ?R ?d ?u ?_; (case B => k_asm); (case F => k_asm); (case X => k_asm); (case N => k_asm); (case T => k_asm); (case K => exact rfl); (case R => (refine' ⟨_, rfl, IsQ.mk ?m1, ?o1⟩; (case m1 => k_mem); (case o1 => first | omega | assumption | exact q_pos (by omega) (by omega) | exact q_lt (by omega) (by omega) (by omega) (by omega)))); (case d => omega); (case u => omega)); k_whole; intro r' tl' h' tk' F' N' off' out'; (try dsimp only at out'); (cases out'); (try subst e'); (try subst out'); (try k_sweep); (try dsimp only)))
local macro_rules | `(tactic| walk_at "call ref") => `(tactic| (k_dflt (refine' Con.use (sub_con _ _ _ _) ?B ?F ?X ?N ?T ?K ?R ?d ?u ?_; (case B => k_asm); (case F => k_asm); (case X => k_asm); (case N => k_asm); (case T => k_asm); (case K => exact rfl); (case R => (refine' ⟨_, _, rfl, IsQ.mk ?m1, IsQ.mk ?m2, ?o1, ?o2⟩; (case m1 => k_mem); (case m2 => k_mem); (case o1 => first | omega | assumption | exact q_pos (by omega) (by omega) | exact q_lt (by omega) (by omega) (by omega) (by omega)); (case o2 => first | omega | assumption | exact q_pos (by omega) (by omega) | exact q_lt (by omega) (by omega) (by omega) (by omega)))); (case d => omega); (case u => omega)); k_whole; intro r' tl' h' tk' F' N' off' out'; (try dsimp only at out'); (cases out'); (try subst e'); (try subst out'); (try k_sweep); (try dsimp only)))


abbrev rD (q : Int × Int) : Dat := .tuple [.int q.1, .int q.2]
theorem IsQ.dat {news : Led} {v : Value} {n d : Int} (h : IsQ news v n d) : DatIn news v (rD (n, d)) := by
  cases h with
  | mk h => exact .tuple h (.cons (.int _ _) (.cons (.int _ _) .nil))
theorem isQ_of {news : Led} {v : Value} {q : Int × Int} (h : DatIn news v (rD q)) : IsQ news v q.1 q.2 := by
  cases h with
  | tuple hm r =>
    cases r with
    | cons h1 r =>
      cases r with
      | cons h2 r =>
        cases r
        cases h1
        cases h2
        exact .mk hm
abbrev IsQs (news : Led) (vs : List Value) (qs : List (Int × Int)) : Prop := DatAll news vs (qs.map rD)
theorem IsQs.get {news : Led} {vs : List Value} {qs : List (Int × Int)} (h : IsQs news vs qs) {i : Nat} {q : Int × Int} (hq : qs[i]? = some q) : ∃ v, vs[i]? = some v ∧ IsQ news v q.1 q.2 := by
  have hi : i < qs.length := (List.getElem?_eq_some_iff.mp hq).1
  obtain ⟨v, hv, hd⟩ := DatAll.get h (k := i) (by simpa using hi)
  refine ⟨v, hv, isQ_of ?_⟩
  have e : (qs.map rD)[i]'(by simpa using hi) = rD q := by simp [(List.getElem?_eq_some_iff.mp hq).2]
  rw [← e]; exact hd
def addQ (a b : Int × Int) : Int × Int := (lowN (a.1 * b.2 + b.1 * a.2) (a.2 * b.2), lowD (a.1 * b.2 + b.1 * a.2) (a.2 * b.2))
def sumQ (qs : List (Int × Int)) : Int × Int := qs.foldl addQ (0, 1)
theorem sumQ_snoc (qs : List (Int × Int)) (q : Int × Int) : sumQ (qs ++ [q]) = addQ (sumQ qs) q := by simp [sumQ]
/-- where a datum of the list stands -/
theorem pre_at {qs : List (Int × Int)} {pre post : List Dat} {d : Dat} (h : qs.map rD = pre ++ d :: post) : ∃ q, qs[pre.length]? = some q ∧ d = rD q ∧ pre = (qs.take pre.length).map rD := by
  have h1 : (qs.map rD)[pre.length]? = some d := by rw [h]; simp
  rw [List.getElem?_map] at h1
  obtain ⟨q, hq, e⟩ := Option.map_eq_some_iff.mp h1
  refine ⟨q, hq, e.symm, ?_⟩
  have h2 : (qs.map rD).take pre.length = pre := by rw [h]; simp
  rw [← List.map_take] at h2
  exact h2.symm
theorem take_at {qs : List (Int × Int)} {i : Nat} {q : Int × Int} (h : qs[i]? = some q) : qs.take (i + 1) = qs.take i ++ [q] := by
  rw [List.take_add_one, h]; rfl
theorem off_ne {tl : Led} {news : Led} (h : OwnOff tl (news.map (·.1))) : ∀ q ∈ tl, ∀ b ∈ news.map (·.1), b ≠ q.1 := fun q hq b hb e => h q hq b hb e.symm
theorem IsV.mono {news news' : Led} {v : Value} {n d : Int} (h : IsV news v n d) (hs : ∀ p ∈ news, p ∈ news') : IsV news' v n d := h.imp (fun q => q.mono hs) id
theorem led_swap {a b : Led} : ∀ p ∈ a ++ b, p ∈ b ++ a := by
  intro p hp; simp only [List.mem_append] at hp ⊢; grind
theorem led_own {a b c : Led} : ∀ p ∈ a ++ b, p ∈ a ++ (b ++ c) := by
  intro p hp; simp only [List.mem_append] at hp ⊢; grind
theorem led_mid {a b c d : Led} : ∀ p ∈ b ++ (a ++ c), p ∈ a ++ (b ++ (c ++ d)) := by
  intro p hp; simp only [List.mem_append] at hp ⊢; grind
theorem led_last {a b c d : Led} : ∀ p ∈ d, p ∈ a ++ (b ++ (c ++ d)) := by
  intro p hp; simp only [List.mem_append] at hp ⊢; grind
theorem off_in {tl a b : Led} (h : OwnOff tl ((a ++ b).map (·.1))) : OwnOff tl (a.map (·.1)) := off_sub h fun _ h => List.mem_append.mpr (.inl h)
theorem off_own {tl a b c : Led} (h : OwnOff tl ((a ++ (b ++ c)).map (·.1))) : ∀ q ∈ tl, ∀ p ∈ c, p.1 ≠ q.1 :=
  fun q hq p hp e => h q hq p.1 (List.mem_map.mpr ⟨p, List.mem_append.mpr (.inr (List.mem_append.mpr (.inr hp))), rfl⟩) e.symm
theorem end_led {σ τ : Type} {cst : Led} {ps : σ → List (Str × Value)} {Facts : Led → σ → Prop} {x : Str} {stored : List Str} {m₀ : Str → Option Value} {P : τ → σ → Prop} {pre : τ} {h₀ : Heap} (c : σ) {tl tl2 : Led} {L : Addr} {m' : Str → Option Value} {own : Led} {s₁ : Shared} {h' : Heap} {tk : Nat}
    (h0 : KdSep own tl (cst.map (·.1))) (F : Fr h₀ L h' m') (N : News h₀ L h' (tl2 ++ (cst ++ (tl ++ own)))) (off : OwnOff tl2 ((cst ++ (tl ++ own)).map (·.1)))
    (hk : ∀ p ∈ ps c, m' p.1 = some p.2) (hr : ∀ z, z ≠ x → (∀ p ∈ ps c, z ≠ p.1) → stored.contains z = false → m' z = m₀ z) (hf : Facts (cst ++ (tl2 ++ tl)) c) (hp : P pre c) :
    InvEndG h₀ L (KdS (fun _ => []) cst ps Facts x stored m₀ P (cst.map (·.1)) pre) own s₁ { s₁ with heap := h', toks := tk } :=
  kd_end (Led := fun _ => []) c tl2 h0 F N (by intro p hp; simp only [List.mem_append, List.not_mem_nil, false_or] at hp ⊢; grind) led_last rfl (off_ne (off_in off)) (off_own off) hk hr hf hp
theorem end_led0 {σ τ : Type} {cst : Led} {ps : σ → List (Str × Value)} {Facts : Led → σ → Prop} {x : Str} {stored : List Str} {m₀ : Str → Option Value} {P : τ → σ → Prop} {pre : τ} {h₀ : Heap} (c : σ) {tl : Led} {L : Addr} {m' : Str → Option Value} {own : Led} {s₁ : Shared} {h' : Heap} {tk : Nat}
    (h0 : KdSep own tl (cst.map (·.1))) (F : Fr h₀ L h' m') (N : News h₀ L h' (cst ++ (tl ++ own)))
    (hk : ∀ p ∈ ps c, m' p.1 = some p.2) (hr : ∀ z, z ≠ x → (∀ p ∈ ps c, z ≠ p.1) → stored.contains z = false → m' z = m₀ z) (hf : Facts (cst ++ tl) c) (hp : P pre c) :
    InvEndG h₀ L (KdS (fun _ => []) cst ps Facts x stored m₀ P (cst.map (·.1)) pre) own s₁ { s₁ with heap := h', toks := tk } :=
  end_led (tl2 := []) c h0 F N (fun _ h => nomatch h) hk hr hf hp
abbrev SumR (qs : List (Int × Int)) (nw : Led) (vs : List Value) : Prop := ∃ l us n, vs = [.ref l] ∧ (l, listOf us.toArray n) ∈ nw ∧ IsQs nw us qs ∧ (∀ q ∈ qs, Sm q.1 q.2) ∧ (∀ k, Sm (sumQ (qs.take k)).1 (sumQ (qs.take k)).2) ∧ qs ≠ []
set_option maxHeartbeats 4000000 in
theorem double_sum_con (qs : List (Int × Int)) : Con w p loose mean mg mb 182 15 500 (SumR qs) (fun nw tl r => IsQ (tl ++ nw) r (sumQ qs).1 (sumQ qs).2) := by
  unfold Con
  intro dp un gd cn cs a ccd cl outer A₀ base h₀ L m news s vs Q E B F X N T hk hR hd hu hret
  obtain ⟨l, us, n, rfl, hm, hq, hs, hs2, hne⟩ := hR
  have hT : Touch PySem.Challenge.rw_ov0057_01 KK := by (k_fill; trivial)
  clear hT
  k_with_none
  k_with "pyIter ref" => (
    (rename Fr _ _ _ _ => lF'); (rename News _ _ _ _ => lN')
    refine' kd_listL (σ := Value × Int × Int × Bool) (fun _ => []) news (fun c => [(Str.ofString "total", c.1)]) (fun nw c => (c.2.2.2 = true → IsQ nw c.1 c.2.1 c.2.2.1) ∧ IsV nw c.1 c.2.1 c.2.2.1) [] (fun pre c => (c.2.1, c.2.2.1) = sumQ (qs.take pre.length) ∧ (c.2.2.2 = false → pre = [])) (news.map (·.1)) (.ref 55, 0, 1, false) rfl hm (by rw [List.append_nil]; exact hq) lF' lN' (fun p hp => by simpa using hp) (fun _ => rfl) ⟨(fun h => nomatch h), Or.inr ⟨rfl, rfl, rfl⟩⟩ (by intro q hq; rw [List.mem_singleton.mp hq]; rfl) ⟨rfl, fun _ => rfl⟩
      (fun c tl pre d post v u h tk own hE hD hV hS hO hF hP F1 N1 => ?_) (fun c tl u h tk hO hF hP F1 N1 => ?_)
    all_goals (clear lF' lN'; obtain ⟨v0, n0, d0, b0⟩ := c; obtain ⟨hFq, hF⟩ := hF; obtain ⟨hP, hPb⟩ := hP; dsimp only [List.nil_append] at F1 N1 hF hFq hP hPb)
    all_goals first
      | (obtain ⟨q, hq1, rfl, -⟩ := pre_at hE
         have hF' := hF.mono (led_own (c := own))
         obtain ⟨va, t, u1, k, rfl, hm2⟩ := (isQ_of hV).out
         have hs3 := hs q (List.mem_of_getElem? hq1)
         have hs4 := hs2 pre.length
         rw [← hP] at hs4
         dsimp only at hs4
         replace hm2 := led_own (c := own) _ hm2
         have hP' : addQ (n0, d0) q = sumQ (qs.take (pre ++ [rD q]).length) := by rw [List.length_append, List.length_singleton, take_at hq1, sumQ_snoc, ← hP]
         clear hF hE hD hV)
      | (rw [List.length_map, List.take_length] at hP)
    all_goals (try k_fold))
  k_dflt (refine' enterC [(Str.ofString "items", .ref l)] B F X N T hk ?k8 hret ?k6 ?k7 ?k9 ?kB ?c2 ?c3 ?c4 ?c5 ?_; (case k8 => omega); (case k6 => k_is); (case k7 => k_is); (case k9 => exact rfl); (case kB => exact rfl); (case c2 => exact rfl); (case c3 => exact rfl); (case c4 => exact rfl); (case c5 => decide))
  clear B F X N T hret Q E hk A₀ m
  intro g L' h' tk' F' N' B' X' T'
  (try dsimp only [List.reverse, List.reverseAux] at F'); (try k_fold)
  k_steps
  · exact end_led (_, (addQ (n0, d0) q).1, (addQ (n0, d0) q).2, true) hS (by assumption) (by assumption) (by assumption) (by kst_all) (by intro z h1 h2 _; have h3 : z ≠ Str.ofString "total" := h2 _ (.head _); simp only [h1, h3, if_false, kstB, List.contains_nil, Bool.false_eq_true]) ⟨fun _ => IsQ.mk (List.mem_append.mpr (.inr (List.mem_append.mpr (.inl (by assumption))))), Or.inl (IsQ.mk (List.mem_append.mpr (.inr (List.mem_append.mpr (.inl (by assumption))))))⟩ ⟨hP', fun h => nomatch h⟩
  · dsimp only; k_unfold
    exact Ends.intro tl (by assumption) N1 led_swap hO (by
      rw [← hP]
      cases b0 with
      | true => exact (hFq rfl).mono led_swap
      | false => exact absurd (List.map_eq_nil_iff.mp (hPb rfl)) hne)
theorem SumR.mk {qs : List (Int × Int)} {nw : Led} {l : Addr} {us : List Value} {n : Nat} (hm : (l, listOf us.toArray n) ∈ nw) (hq : IsQs nw us qs) (hs : ∀ q ∈ qs, Sm q.1 q.2) (hs2 : ∀ k, Sm (sumQ (qs.take k)).1 (sumQ (qs.take k)).2) (hne : qs ≠ []) : SumR qs nw [.ref l] := ⟨l, us, n, rfl, hm, hq, hs, hs2, hne⟩
local macro_rules | `(tactic| walk_at "call ref") => `(tactic| (k_dflt (refine' Con.use (double_sum_con _) ?B ?F ?X ?N ?T ?K ?R ?d ?u ?_; (case B => k_asm); (case F => k_asm); (case X => k_asm); (case N => k_asm); (case T => k_asm); (case K => exact rfl); (case R => (refine' SumR.mk ?m1 ?o1 ?o2 ?o3 ?o4; (case m1 => k_mem); (case o1 => first | omega | assumption | exact q_pos (by omega) (by omega) | exact q_lt (by omega) (by omega) (by omega) (by omega)); (case o2 => first | omega | assumption | exact q_pos (by omega) (by omega) | exact q_lt (by omega) (by omega) (by omega) (by omega)); (case o3 => first | omega | assumption | exact q_pos (by omega) (by omega) | exact q_lt (by omega) (by omega) (by omega) (by omega)); (case o4 => first | omega | assumption | exact q_pos (by omega) (by omega) | exact q_lt (by omega) (by omega) (by omega) (by omega)))); (case d => omega); (case u => omega)); k_whole; intro r' tl' h' tk' F' N' off' out'; (try dsimp only at out'); (cases out'); (try subst e'); (try subst out'); (try k_sweep); (try dsimp only)))


theorem Ends.tl3 {g : Heap} {s : Shared} {news tl tl2 tl3 : Led} {Out : Led → Led → Value → Prop} {r : Value} {L' : Addr} {h' : Heap} {tk' : Nat} {m' : Str → Option Value} (F : Fr g L' h' m') (N : News g L' h' (tl3 ++ (tl2 ++ (tl ++ news)))) (off3 : OwnOff tl3 ((tl2 ++ (tl ++ news)).map (·.1))) (off2 : OwnOff tl2 ((tl ++ news).map (·.1))) (off : OwnOff tl (news.map (·.1))) (out : Out news (tl3 ++ (tl2 ++ tl)) r) :
    Ends g s news Out (.ret r) { s with heap := h', toks := tk' } :=
  Ends.intro (tl3 ++ (tl2 ++ tl)) F N (fun p hp => by simpa only [List.append_assoc] using hp) (off_app (off_sub off3 fun _ h => List.mem_append.mpr (.inr (List.mem_append.mpr (.inr h)))) (off_app (off_sub off2 fun _ h => List.mem_append.mpr (.inr h)) off)) out
def meanQ (qs : List (Int × Int)) : Int × Int := (lowN ((sumQ qs).1 * 1) ((sumQ qs).2 * qs.length), lowD ((sumQ qs).1 * 1) ((sumQ qs).2 * qs.length))
set_option maxHeartbeats 4000000 in
theorem mean_items_con (qs : List (Int × Int)) : Con w p loose mean mg mb 194 18 600 (fun nw vs => SumR qs nw vs ∧ 0 < qs.length ∧ (qs.length : Int) < 2 ^ 14) (fun _ tl r => IsQ tl r (meanQ qs).1 (meanQ qs).2) := by
  unfold Con
  intro dp un gd cn cs a ccd cl outer A₀ base h₀ L m news s vs Q E B F X N T hk hR hd hu hret
  obtain ⟨⟨l, us, n, rfl, hm, hq, hs, hs2, hne⟩, h1, h2⟩ := hR
  have hT : Touch PySem.Challenge.rw_ov0057_01 KK := by (k_fill; trivial)
  clear hT
  k_with_none
  have hlen : us.length = qs.length := by rw [DatAll.length hq, List.length_map]
  have hs3 := hs2 qs.length
  rw [List.take_length] at hs3
  have hs4 : Sm (us.length : Int) 1 := by unfold Sm; omega
  k_dflt (refine' enterC [(Str.ofString "items", .ref l)] B F X N T hk ?k8 hret ?k6 ?k7 ?k9 ?kB ?c2 ?c3 ?c4 ?c5 ?_; (case k8 => omega); (case k6 => k_is); (case k7 => k_is); (case k9 => exact rfl); (case kB => exact rfl); (case c2 => exact rfl); (case c3 => exact rfl); (case c4 => exact rfl); (case c5 => decide))
  clear B F X N T hret Q E hk A₀ m
  intro g L' h' tk' F' N' B' X' T'
  (try dsimp only [List.reverse, List.reverseAux] at F'); (try k_fold)
  k_steps
  exact Ends.tl3 (by assumption) (by assumption) (by assumption) (by assumption) (by assumption) (IsQ.mk2 (List.mem_append.mpr (.inl (by assumption))) (by rw [hlen]; rfl) (by rw [hlen]; rfl))
local macro_rules | `(tactic| walk_at "call ref") => `(tactic| (k_dflt (refine' Con.use (mean_items_con _) ?B ?F ?X ?N ?T ?K ?R ?d ?u ?_; (case B => k_asm); (case F => k_asm); (case X => k_asm); (case N => k_asm); (case T => k_asm); (case K => exact rfl); (case R => (refine' ⟨SumR.mk ?m1 ?o1 ?o2 ?o3 ?o4, ?o5, ?o6⟩; (case m1 => k_mem); (case o1 => first | omega | assumption | exact q_pos (by omega) (by omega) | exact q_lt (by omega) (by omega) (by omega) (by omega)); (case o2 => first | omega | assumption | exact q_pos (by omega) (by omega) | exact q_lt (by omega) (by omega) (by omega) (by omega)); (case o3 => first | omega | assumption | exact q_pos (by omega) (by omega) | exact q_lt (by omega) (by omega) (by omega) (by omega)); (case o4 => first | omega | assumption | exact q_pos (by omega) (by omega) | exact q_lt (by omega) (by omega) (by omega) (by omega)); (case o5 => first | omega | assumption | exact q_pos (by omega) (by omega) | exact q_lt (by omega) (by omega) (by omega) (by omega)); (case o6 => first | omega | assumption | exact q_pos (by omega) (by omega) | exact q_lt (by omega) (by omega) (by omega) (by omega)))); (case d => omega); (case u => omega)); k_whole; intro r' tl' h' tk' F' N' off' out'; (try dsimp only at out'); (cases out'); (try subst e'); (try subst out'); (try k_sweep); (try dsimp only)))


set_option maxHeartbeats 4000000 in
theorem lacking_item_con (qs : List (Int × Int)) : Con w p loose mean mg mb 208 6 200 (fun nw vs => ∃ l us n, vs = [.ref l] ∧ (l, listOf us.toArray n) ∈ nw ∧ IsQs nw us qs ∧ (∀ q ∈ qs, 0 < q.2)) (fun _ _ r => r = .bool false) := by
  unfold Con
  intro dp un gd cn cs a ccd cl outer A₀ base h₀ L m news s vs Q E B F X N T hk hR hd hu hret
  obtain ⟨l, us, n, rfl, hm, hq, hs⟩ := hR
  have hT : Touch PySem.Challenge.rw_ov0057_01 KK := by (k_fill; trivial)
  clear hT
  k_with_none
  k_with "pyIter ref" => (
    (rename Fr _ _ _ _ => lF'); (rename News _ _ _ _ => lN')
    refine' kd_listL (σ := Unit) (fun _ => []) news (fun c => []) (fun nw c => True) [] (fun pre c => True) (news.map (·.1)) () rfl hm (by rw [List.append_nil]; exact hq) lF' lN' (fun p hp => by simpa using hp) (fun _ => rfl) trivial (by intro q hq; exact nomatch hq) trivial
      (fun c tl pre d post v u h tk own hE hD hV hS hO hF hP F1 N1 => ?_) (fun c tl u h tk hO hF hP F1 N1 => ?_)
    all_goals (clear lF' lN'; dsimp only [List.nil_append] at F1 N1)
    all_goals (try (
         obtain ⟨q, hq1, rfl, -⟩ := pre_at hE
         obtain ⟨va, t, u1, k, rfl, hm2⟩ := (isQ_of hV).out
         have hs3 := hs q (List.mem_of_getElem? hq1)
         replace hm2 := led_own (c := own) _ hm2
         clear hE hD hV))
    all_goals (try k_fold))
  k_dflt (refine' enterC [(Str.ofString "items", .ref l)] B F X N T hk ?k8 hret ?k6 ?k7 ?k9 ?kB ?c2 ?c3 ?c4 ?c5 ?_; (case k8 => omega); (case k6 => k_is); (case k7 => k_is); (case k9 => exact rfl); (case kB => exact rfl); (case c2 => exact rfl); (case c3 => exact rfl); (case c4 => exact rfl); (case c5 => decide))
  clear B F X N T hret Q E hk A₀ m
  intro g L' h' tk' F' N' B' X' T'
  (try dsimp only [List.reverse, List.reverseAux] at F'); (try k_fold)
  k_steps
  · exact end_led0 () hS (by assumption) (by assumption) (by intro p hp; exact nomatch hp) (by intro z h1 h2 _; simp only [h1, if_false, kstB, List.contains_nil, Bool.false_eq_true]) trivial trivial
  · dsimp only; k_unfold
    exact Ends.intro0 (by assumption) N1 (fun p hp => List.mem_append.mpr (.inl hp)) rfl
local macro_rules | `(tactic| walk_at "call ref") => `(tactic| (k_dflt (refine' Con.useV (lacking_item_con _) ?B ?F ?X ?N ?T ?K ?R ?d ?u ?_; (case B => k_asm); (case F => k_asm); (case X => k_asm); (case N => k_asm); (case T => k_asm); (case K => exact rfl); (case R => (refine' ⟨_, _, _, rfl, ?m1, ?o1, ?o2⟩; (case m1 => k_mem); (case o1 => first | omega | assumption | exact q_pos (by omega) (by omega) | exact q_lt (by omega) (by omega) (by omega) (by omega)); (case o2 => first | omega | assumption | exact q_pos (by omega) (by omega) | exact q_lt (by omega) (by omega) (by omega) (by omega)))); (case d => omega); (case u => omega)); k_whole; intro r' h' tk' F' N' out'; (try dsimp only at out'); (try subst e'); (try subst out'); (try k_sweep); (try dsimp only)))


theorem gcd_turn2 {a b x y : Int} (hb : 0 ≤ b) (h : b ≠ 0) (e : Int.gcd a b = Int.gcd x y) : 0 ≤ b ∧ 0 ≤ a.fmod b ∧ Int.gcd b (a.fmod b) = Int.gcd x y :=
  gcd_turn (by omega) e
theorem gcd_less2 {a b : Int} (hb : 0 ≤ b) (h : b ≠ 0) : (a.fmod b).toNat < b.toNat := gcd_less (by omega)
set_option maxHeartbeats 4000000 in
theorem law_lowest_con (n d : Int) : Con w p loose mean mg mb 234 3 200 (fun _ vs => ∃ t u, vs = [.int n t, .int d u] ∧ 0 < d ∧ d < 2 ^ 30) (fun _ nw r => IsQ nw r (lowN n d) (lowD n d)) := by
  unfold Con
  intro dp un gd cn cs a ccd cl outer A₀ base h₀ L m news s vs Q E B F X N T hk hR hd hu hret
  obtain ⟨t, u, rfl, hx, hy⟩ := hR
  have hT : Touch PySem.Challenge.rw_ov0057_01 KK := by (k_fill; trivial)
  clear hT
  k_with_none
  k_with "exec While Compare cons nil" => k_while (fun _ a b => 0 ≤ a ∧ 0 ≤ b ∧ Int.gcd a b = Int.gcd (if n < 0 then -n else n) d) (fun _ a b => b.toNat) "a" "b"
  k_with "state" => exact gcd_turn2 (by assumption) (by omega) (by assumption)
  k_with "measure" => exact gcd_less2 (by assumption) (by omega)
  k_dflt (refine' enterC [(Str.ofString "n", .int n t), (Str.ofString "d", .int d u)] B F X N T hk ?k8 hret ?k6 ?k7 ?k9 ?kB ?c2 ?c3 ?c4 ?c5 ?_; (case k8 => omega); (case k6 => k_is); (case k7 => k_is); (case k9 => exact rfl); (case kB => exact rfl); (case c2 => exact rfl); (case c3 => exact rfl); (case c4 => exact rfl); (case c5 => decide))
  clear B F X N T hret Q E hk A₀ m
  intro g L' h' tk' F' N' B' X' T'
  (try dsimp only [List.reverse, List.reverseAux] at F'); (try k_fold)
  k_steps
  all_goals (try (exfalso; omega))
  have e1 := ‹Int.gcd _ _ = Int.gcd (if n < 0 then -n else n) d›
  obtain ⟨e2, e3⟩ := gcd_end2 (by assumption) (by assumption) (by omega) e1
  have e4 := e3 (by omega)
  clear e3
  k_steps
  all_goals (try (exfalso; omega))
  refine Ends.one (by assumption) (by assumption) (by assumption) (IsQ.mk2 (.head _) (low_eqN (by assumption)) (low_eqD (by assumption)))
local macro_rules | `(tactic| walk_at "call ref") => `(tactic| (k_dflt (refine' Con.use (law_lowest_con _ _) ?B ?F ?X ?N ?T ?K ?R ?d ?u ?_; (case B => k_asm); (case F => k_asm); (case X => k_asm); (case N => k_asm); (case T => k_asm); (case K => exact rfl); (case R => (refine' ⟨_, _, rfl, ?o1, ?o2⟩; (case o1 => first | omega | assumption | exact q_pos (by omega) (by omega) | exact q_lt (by omega) (by omega) (by omega) (by omega)); (case o2 => first | omega | assumption | exact q_pos (by omega) (by omega) | exact q_lt (by omega) (by omega) (by omega) (by omega)))); (case d => omega); (case u => omega)); k_whole; intro r' tl' h' tk' F' N' off' out'; (try dsimp only at out'); (cases out'); (try subst e'); (try subst out'); (try k_sweep); (try dsimp only)))


set_option maxHeartbeats 4000000 in
theorem law_under_con (n d m e : Int) : Con w p loose mean mg mb 255 3 200 (fun nw vs => ∃ v u, vs = [v, u] ∧ IsQ nw v n d ∧ IsQ nw u m e ∧ (-(2 ^ 30) < n ∧ n < 2 ^ 30 ∧ 0 < d ∧ d < 2 ^ 30) ∧ (-(2 ^ 30) < m ∧ m < 2 ^ 30 ∧ 0 < e ∧ e < 2 ^ 30)) (fun _ _ r => r = .bool (decide (n * e < m * d))) := by
  unfold Con
  intro dp un gd cn cs a ccd cl outer A₀ base h₀ L m news s vs Q E B F X N T hk hR hd hu hret
  obtain ⟨v, u, rfl, hv, hu', hs1, hs2⟩ := hR
  have hT : Touch PySem.Challenge.rw_ov0057_01 KK := by (k_fill; trivial)
  clear hT
  k_with_none
  obtain ⟨ub, t2, u2, k2, rfl, hm2⟩ := hu'.out
  obtain ⟨va, t, u, k, rfl, hm⟩ := hv.out
  k_dflt (refine' enterC [(Str.ofString "x", .ref va), (Str.ofString "y", .ref ub)] B F X N T hk ?k8 hret ?k6 ?k7 ?k9 ?kB ?c2 ?c3 ?c4 ?c5 ?_; (case k8 => omega); (case k6 => k_is); (case k7 => k_is); (case k9 => exact rfl); (case kB => exact rfl); (case c2 => exact rfl); (case c3 => exact rfl); (case c4 => exact rfl); (case c5 => decide))
  clear B F X N T hret Q E hk A₀ m
  intro g L' h' tk' F' N' B' X' T'
  (try dsimp only [List.reverse, List.reverseAux] at F'); (try k_fold)
  k_steps
  trace_state
  all_goals (refine Ends.intro0 (by assumption) (by assumption) (fun _ h => h) ?_)
  rfl
local macro_rules | `(tactic| walk_at "call ref") => `(tactic| (k_dflt (refine' Con.useV (law_under_con _ _ _ _) ?B ?F ?X ?N ?T ?K ?R ?d ?u ?_; (case B => k_asm); (case F => k_asm); (case X => k_asm); (case N => k_asm); (case T => k_asm); (case K => exact rfl); (case R => (refine' ⟨_, _, rfl, IsQ.mk ?m1, IsQ.mk ?m2, ?o1, ?o2⟩; (case m1 => k_mem); (case m2 => k_mem); (case o1 => first | omega | assumption | exact q_pos (by omega) (by omega) | exact q_lt (by omega) (by omega) (by omega) (by omega)); (case o2 => first | omega | assumption | exact q_pos (by omega) (by omega) | exact q_lt (by omega) (by omega) (by omega) (by omega)))); (case d => omega); (case u => omega)); k_whole; intro r' h' tk' F' N' out'; (try dsimp only at out'); (try subst e'); (try subst out'); (try k_sweep); (try dsimp only)))


/-- what stands ahead of the ledger is new -/
def Tl (all news : Led) : Prop := ∃ tl, (∀ p ∈ tl ++ news, p ∈ all) ∧ (∀ p ∈ all, p ∈ tl ++ news) ∧ OwnOff tl (news.map (·.1))
theorem Tl.nil {news : Led} : Tl news news := ⟨[], fun _ h => h, fun _ h => h, fun _ h => nomatch h⟩
theorem Tl.cons {a rest news : Led} (off : OwnOff a (rest.map (·.1))) (h : Tl rest news) : Tl (a ++ rest) news := by
  obtain ⟨tl, s1, s2, o⟩ := h
  refine ⟨a ++ tl, ?_, ?_, off_app (off_sub off fun p hp => s1 p (List.mem_append.mpr (.inr hp))) o⟩
  · intro p hp
    rw [List.append_assoc] at hp
    rcases List.mem_append.mp hp with hp | hp
    · exact List.mem_append.mpr (.inl hp)
    · exact List.mem_append.mpr (.inr (s1 p hp))
  · intro p hp
    rw [List.append_assoc]
    rcases List.mem_append.mp hp with hp | hp
    · exact List.mem_append.mpr (.inl hp)
    · exact List.mem_append.mpr (.inr (s2 p hp))
theorem Tl.one {D : Addr} {o : Obj} {rest news : Led} (l : ∀ p ∈ rest, p.1 < D) (h : Tl rest news) : Tl ((D, o) :: rest) news := Tl.cons (a := [(D, o)]) (off_one l) h
theorem Ends.gen {g : Heap} {s : Shared} {news all : Led} {Out : Led → Led → Value → Prop} {r : Value} {L' : Addr} {h' : Heap} {tk' : Nat} {m' : Str → Option Value} (F : Fr g L' h' m') (N : News g L' h' all) (T : Tl all news) (out : ∀ tl, (∀ p ∈ all, p ∈ tl ++ news) → Out news tl r) :
    Ends g s news Out (.ret r) { s with heap := h', toks := tk' } := by
  obtain ⟨tl, s1, s2, o⟩ := T
  exact Ends.intro tl F N s1 o (out tl s2)
theorem Ends.gen2 {g : Heap} {s : Shared} {news a rest : Led} {Out : Led → Led → Value → Prop} {r : Value} {L' : Addr} {h' : Heap} {tk' : Nat} {m' : Str → Option Value} (F : Fr g L' h' m') (N : News g L' h' (a ++ rest)) (off : OwnOff a (rest.map (·.1))) (T : Tl rest news) (out : ∀ tl, (∀ p ∈ a, p ∈ tl) → Out news tl r) :
    Ends g s news Out (.ret r) { s with heap := h', toks := tk' } := by
  obtain ⟨tl, s1, s2, o⟩ := T
  refine Ends.intro (a ++ tl) F N (fun p hp => ?_) (off_app (off_sub off fun p hp => s1 p (List.mem_append.mpr (.inr hp))) o) (out _ fun p hp => List.mem_append.mpr (.inl hp))
  rw [List.append_assoc] at hp
  rcases List.mem_append.mp hp with hp | hp
  · exact List.mem_append.mpr (.inl hp)
  · exact List.mem_append.mpr (.inr (s1 p hp))
def lowQ (n d : Int) : Int × Int := (lowN n d, lowD n d)
def mulQ (a b : Int × Int) : Int × Int := lowQ (a.1 * b.1) (a.2 * b.2)
def subQ (a b : Int × Int) : Int × Int := lowQ (a.1 * b.2 + (0 - b.1) * a.2) (a.2 * b.2)
def placeQ (n : Nat) (p : Int × Int) : Int × Int := mulQ p ((n : Int) - 1, 1)
def flQ (a : Int × Int) : Int := a.1.fdiv a.2
def partQ (n : Nat) (p : Int × Int) : Int × Int := subQ (placeQ n p) (flQ (placeQ n p), 1)
abbrev SmQ (a : Int × Int) : Prop := Sm a.1 a.2
/-- the numbers at a share: all that the walk asks, and the answer -/
def QFit (qs : List (Int × Int)) (p r : Int × Int) : Prop :=
  0 ≤ p.1 ∧ p.1 ≤ p.2 ∧ SmQ p ∧ 0 < qs.length ∧ (qs.length : Int) < 2 ^ 14 ∧ SmQ (placeQ qs.length p) ∧ 0 ≤ flQ (placeQ qs.length p) ∧ Sm (flQ (placeQ qs.length p)) 1 ∧
  ∃ x0, qs[(flQ (placeQ qs.length p)).toNat]? = some x0 ∧
    (((partQ qs.length p).1 = 0 ∧ r = x0) ∨
     ((partQ qs.length p).1 ≠ 0 ∧ ∃ x1, qs[(flQ (placeQ qs.length p) + 1).toNat]? = some x1 ∧ SmQ x0 ∧ SmQ x1 ∧ SmQ (partQ qs.length p) ∧ SmQ (subQ x1 x0) ∧ SmQ (mulQ (partQ qs.length p) (subQ x1 x0)) ∧ r = addQ x0 (mulQ (partQ qs.length p) (subQ x1 x0))))
theorem sm_len {n : Nat} (h : 0 < n) (k : (n : Int) < 2 ^ 14) : Sm ((n : Int) - 1) 1 := by unfold Sm; omega
set_option maxHeartbeats 8000000 in
theorem quantile_item_con (us : List Value) (qs : List (Int × Int)) (pq rq : Int × Int) : Con w p loose mean mg mb 222 20 800 (fun nw vs => ∃ l n v, vs = [.ref l, v] ∧ (l, listOf us.toArray n) ∈ nw ∧ IsQs nw us qs ∧ IsQ nw v pq.1 pq.2 ∧ QFit qs pq rq) (fun _ tl r => ∀ led, IsQs led us qs → IsQ (tl ++ led) r rq.1 rq.2) := by
  obtain ⟨pn, pd⟩ := pq
  unfold Con
  intro dp un gd cn cs a ccd cl outer A₀ base h₀ L m news s vs Q E B F X N T hk hR hd hu hret
  obtain ⟨l, n, v, rfl, hm, hq, hv, hF⟩ := hR
  have hT : Touch PySem.Challenge.rw_ov0057_01 KK := by (k_fill; trivial)
  clear hT
  k_with_none
  have hlen : us.length = qs.length := by rw [DatAll.length hq, List.length_map]
  obtain ⟨h0, h1, hp, hl0, hl1, hpl, hf0, hf1, ⟨x0n, x0d⟩, hx0, hF⟩ := hF
  rw [← hlen] at hl0 hl1 hpl hf0 hf1 hx0 hF
  have hl2 := sm_len hl0 hl1
  obtain ⟨v0, hv0, hd0⟩ := hq.get hx0
  have hgen : ∀ led, IsQs led us qs → IsQ led v0 x0n x0d := fun led hl => by
    obtain ⟨v', e', q'⟩ := hl.get hx0
    rw [hv0] at e'
    cases e'
    exact q'
  obtain ⟨pa, pt, pu, pk, rfl, hpm⟩ := hv.out
  obtain ⟨va, vt, vu, vk, rfl, hvm⟩ := hd0.out
  dsimp only [SmQ] at h0 h1 hp
  have hp' := hp
  unfold Sm at hp'
  rcases hF with ⟨hz, rfl⟩ | ⟨hz, ⟨x1n, x1d⟩, hx1, hs0, hs1, hs2, hs3, hs4, rfl⟩
  · simp only [SmQ, partQ, subQ, mulQ, placeQ, flQ, lowQ] at hpl hf0 hf1 hv0 hz
    have hf2 := hf1
    unfold Sm at hf2
    clear hx0 hd0
    k_dflt (refine' enterC [(Str.ofString "row", .ref l), (Str.ofString "p", .ref pa)] B F X N T hk ?k8 hret ?k6 ?k7 ?k9 ?kB ?c2 ?c3 ?c4 ?c5 ?_; (case k8 => omega); (case k6 => k_is); (case k7 => k_is); (case k9 => exact rfl); (case kB => exact rfl); (case c2 => exact rfl); (case c3 => exact rfl); (case c4 => exact rfl); (case c5 => decide))
    clear B F X N T hret Q E hk A₀ m
    intro g L' h' tk' F' N' B' X' T'
    (try dsimp only [List.reverse, List.reverseAux] at F'); (try k_fold)
    k_steps
    all_goals (try (exfalso; omega))
    dsimp only; k_unfold
    exact Ends.gen (by assumption) (by assumption) (by repeat (first | exact Tl.nil | refine Tl.cons (by assumption) ?_ | refine Tl.one (by assumption) ?_)) (fun tl sub led hl => (hgen led hl).mono fun p hp => List.mem_append.mpr (.inr hp))
  · obtain ⟨v1, hv1, hd1⟩ := hq.get hx1
    obtain ⟨vb, vt1, vu1, vk1, rfl, hvm1⟩ := hd1.out
    simp only [SmQ, partQ, subQ, mulQ, placeQ, flQ, lowQ] at hpl hf0 hf1 hv0 hz hs0 hs1 hs2 hs3 hs4 hv1
    have hf2 := hf1
    unfold Sm at hf2
    clear hx0 hx1 hd0 hd1
    k_dflt (refine' enterC [(Str.ofString "row", .ref l), (Str.ofString "p", .ref pa)] B F X N T hk ?k8 hret ?k6 ?k7 ?k9 ?kB ?c2 ?c3 ?c4 ?c5 ?_; (case k8 => omega); (case k6 => k_is); (case k7 => k_is); (case k9 => exact rfl); (case kB => exact rfl); (case c2 => exact rfl); (case c3 => exact rfl); (case c4 => exact rfl); (case c5 => decide))
    clear B F X N T hret Q E hk A₀ m
    intro g L' h' tk' F' N' B' X' T'
    (try dsimp only [List.reverse, List.reverseAux] at F'); (try k_fold)
    k_steps
    all_goals (try (exfalso; omega))
    exact Ends.gen2 (by assumption) (by assumption) (by assumption) (by repeat (first | exact Tl.nil | refine Tl.cons (by assumption) ?_ | refine Tl.one (by assumption) ?_)) (fun tl sub led hl => IsQ.mk2 (List.mem_append.mpr (.inl (sub _ (by assumption)))) rfl rfl)
local macro_rules | `(tactic| walk_at "call ref") => `(tactic| (k_dflt (refine' Con.use (quantile_item_con _ _ _ _) ?B ?F ?X ?N ?T ?K (⟨_, _, _, rfl, ?m1, ?o1, IsQ.mk ?m2, ?o2⟩) ?d ?u ?_; (case B => k_asm); (case F => k_asm); (case X => k_asm); (case N => k_asm); (case T => k_asm); (case K => exact rfl); (case m1 => k_mem); (case o1 => assumption); (case m2 => k_mem); (case o2 => assumption); (case d => omega); (case u => omega)); k_whole; intro r' tl' h' tk' F' N' off' out'; (try dsimp only at out'); (try k_sweep); (try dsimp only)))


section
variable {n : Nat} {K : Nat → Int} {Inv : Shared → Prop} {cmp : Nat → Nat → (Bool → Shared → Prop) → Shared → Prop}
/-- the tree t of questions ends with an answer of which R holds -/
def Gives (Inv : Shared → Prop) (cmp : Nat → Nat → (Bool → Shared → Prop) → Shared → Prop) {α : Type} (t : KasT α) (R : α → Prop) : Prop :=
  ∀ (Q : α → Shared → Prop) (s : Shared), Inv s → (∀ a s', R a → Inv s' → Q a s') → t.kasWp cmp Q s
/-- each question about numbers below n is answered by the keys -/
def Answers (n : Nat) (K : Nat → Int) (Inv : Shared → Prop) (cmp : Nat → Nat → (Bool → Shared → Prop) → Shared → Prop) : Prop :=
  ∀ i j C s, i < n → j < n → Inv s → (∀ s', Inv s' → C (decide (K i < K j)) s') → cmp i j C s
theorem Gives.ret {α : Type} {a : α} {R : α → Prop} (h : R a) : Gives Inv cmp (.ret a) R := fun _ _ i q => q _ _ h i
theorem Gives.ask {α : Type} {i j : Nat} {k : Bool → KasT α} {R : α → Prop} (A : Answers n K Inv cmp) (hi : i < n) (hj : j < n) (h1 : K i < K j → Gives Inv cmp (k true) R) (h2 : ¬ K i < K j → Gives Inv cmp (k false) R) : Gives Inv cmp (.ask i j k) R := by
  intro Q s hs q
  refine A i j _ s hi hj hs fun s' hs' => ?_
  by_cases h : K i < K j
  · rw [decide_eq_true h]; exact h1 h Q s' hs' q
  · rw [decide_eq_false h]; exact h2 h Q s' hs' q
theorem Gives.bind {α β : Type} {t : KasT α} {f : α → KasT β} {R : α → Prop} {S : β → Prop} (h : Gives Inv cmp t R) (k : ∀ a, R a → Gives Inv cmp (f a) S) : Gives Inv cmp (t.bind f) S := by
  intro Q s hs q
  rw [KasT.kasWp_bind]
  exact h _ s hs fun a s' ha hs' => k a ha Q s' hs' q
def PP (n : Nat) (p : Array Nat) : Prop := p.Perm (List.toArray (List.range n))
def kv (K : Nat → Int) (p : Array Nat) (x : Nat) : Int := K (p.getD x 0)
theorem PP.size {p : Array Nat} (h : PP n p) : p.size = n := by
  have := (Array.perm_iff_toList_perm.mp h).length_eq
  simpa using this
theorem PP.lt {p : Array Nat} (h : PP n p) {x : Nat} (hx : x < n) : p.getD x 0 < n := by
  have hs : x < p.size := by rw [h.size]; exact hx
  have e : p.getD x 0 = p[x] := by simp [Array.getD, hs]
  have : p[x] ∈ List.toArray (List.range n) := (Array.Perm.mem_iff h).mp (Array.getElem_mem hs)
  rw [e]
  simpa using this
theorem PP.rev {p : Array Nat} (h : PP n p) (i j : Nat) : PP n (kas_rev p i j) := (mirror_perm _ _ _ _).trans h
theorem PP.bub {p : Array Nat} (h : PP n p) (i j : Nat) : PP n (bubble p i j) := (bubble_perm _ _ _).trans h
theorem kv_rev {p : Array Nat} {i j : Nat} (hj : j ≤ p.size) (x : Nat) : kv K (kas_rev p i j) x = if i ≤ x ∧ x < j then kv K p (i + j - 1 - x) else kv K p x := by
  unfold kv
  simp only [Array.getD_eq_getD_getElem?]
  show K ((mirror p i j ((j - i) / 2))[x]?.getD 0) = _
  rw [getElem?_mirror_all hj]
  split <;> rfl
theorem kv_bub {p : Array Nat} {k d : Nat} (hk : k < p.size) (hd : d ≤ k) (x : Nat) : kv K (bubble p k d) x = if x = k - d then kv K p k else if k - d < x ∧ x ≤ k then kv K p (x - 1) else kv K p x := by
  unfold kv
  simp only [Array.getD_eq_getD_getElem?]
  rw [getElem?_bubble hk d hd]
  split
  · rfl
  · split <;> rfl
def SortT (K : Nat → Int) (p : Array Nat) (m : Nat) : Prop := ∀ x y, x ≤ y → y < m → kv K p x ≤ kv K p y
def FallT (K : Nat → Int) (p : Array Nat) (m : Nat) : Prop := ∀ x y, x ≤ y → y < m → kv K p y ≤ kv K p x
theorem SortT.step {p : Array Nat} {m : Nat} (h1 : 1 ≤ m) (h : SortT K p m) (k : kv K p (m - 1) ≤ kv K p m) : SortT K p (m + 1) := by
  intro x y hx hy
  rcases Nat.lt_succ_iff_lt_or_eq.mp hy with hy | rfl
  · exact h x y hx hy
  · rcases Nat.lt_or_eq_of_le hx with hx | rfl
    · exact Int.le_trans (h x (y - 1) (by omega) (by omega)) k
    · exact Int.le_refl _
theorem FallT.step {p : Array Nat} {m : Nat} (h1 : 1 ≤ m) (h : FallT K p m) (k : kv K p m ≤ kv K p (m - 1)) : FallT K p (m + 1) := by
  intro x y hx hy
  rcases Nat.lt_succ_iff_lt_or_eq.mp hy with hy | rfl
  · exact h x y hx hy
  · rcases Nat.lt_or_eq_of_le hx with hx | rfl
    · exact Int.le_trans k (h x (y - 1) (by omega) (by omega))
    · exact Int.le_refl _
variable (A : Answers n K Inv cmp)
include A
theorem asc_gives {p : Array Nat} (P : PP n p) : ∀ (f m : Nat), 1 ≤ m → m + f ≤ n → SortT K p m → Gives Inv cmp (kas_asc p f m) fun m' => m ≤ m' ∧ m' ≤ m + f ∧ SortT K p m' ∧ (m' < m + f → kv K p m' < kv K p (m' - 1))
  | 0, m, h1, h2, hs => .ret ⟨Nat.le_refl _, Nat.le_refl _, hs, fun h => absurd h (Nat.lt_irrefl _)⟩
  | f + 1, m, h1, h2, hs => by
    refine .ask A (P.lt (by omega)) (P.lt (by omega)) (fun h => ?_) (fun h => ?_)
    · exact .ret ⟨Nat.le_refl _, by omega, hs, fun _ => h⟩
    · have ih := asc_gives P f (m + 1) (by omega) (by omega) (hs.step h1 (Int.not_lt.mp h))
      intro Q s i q
      exact ih Q s i fun a s' ha => q a s' ⟨by omega, by omega, ha.2.2.1, fun hlt => ha.2.2.2 (by omega)⟩
theorem desc_gives : ∀ (f : Nat) (p : Array Nat) (m q : Nat), PP n p → q + 1 ≤ m → m + f ≤ n → FallT K p m → (∀ x, m - 1 - q ≤ x → x < m → kv K p x = kv K p (m - 1)) →
    Gives Inv cmp (kas_desc f p m q) fun r => PP n r.1 ∧ r.2.2 + 1 ≤ r.2.1 ∧ r.2.1 ≤ n ∧ FallT K r.1 r.2.1 ∧ (∀ x, r.2.1 - 1 - r.2.2 ≤ x → x < r.2.1 → kv K r.1 x = kv K r.1 (r.2.1 - 1))
  | 0, p, m, q, P, h1, h2, hs, he => .ret ⟨P, h1, h2, hs, he⟩
  | f + 1, p, m, q, P, h1, h2, hs, he => by
    refine .ask A (P.lt (by omega)) (P.lt (by omega)) (fun h => ?_) (fun h => ?_)
    · show Gives Inv cmp (if q > 0 then kas_desc f (kas_rev p (m - (q + 1)) m) (m + 1) 0 else kas_desc f p (m + 1) 0) _
      have hb : ∀ x, kv K (kas_rev p (m - (q + 1)) m) x = kv K p x := by
        intro x
        rw [kv_rev (by rw [P.size]; omega)]
        split
        · rw [he (m - (q + 1) + m - 1 - x) (by omega) (by omega), he x (by omega) (by omega)]
        · rfl
      split
      · refine desc_gives f _ (m + 1) 0 (P.rev _ _) (by omega) (by omega) ?_ ?_
        · refine FallT.step (by omega) (fun x y hx hy => ?_) ?_
          · rw [hb, hb]; exact hs x y hx hy
          · rw [hb, hb]; exact Int.le_of_lt h
        · intro x hx hx2
          have : x = m + 1 - 1 := by omega
          rw [this]
      · refine desc_gives f _ (m + 1) 0 P (by omega) (by omega) (FallT.step (by omega) hs (Int.le_of_lt h)) ?_
        intro x hx hx2
        have : x = m + 1 - 1 := by omega
        rw [this]
    · show Gives Inv cmp (.ask (p.getD (m - 1) 0) (p.getD m 0) fun d => if d = true then .ret (p, m, q) else kas_desc f p (m + 1) (q + 1)) _
      refine .ask A (P.lt (by omega)) (P.lt (by omega)) (fun k => ?_) (fun k => ?_)
      · exact .ret ⟨P, h1, by dsimp only; omega, hs, he⟩
      · have e : kv K p m = kv K p (m - 1) := Int.le_antisymm (Int.not_lt.mp k) (Int.not_lt.mp h)
        refine desc_gives f p (m + 1) (q + 1) P (by omega) (by omega) (FallT.step (by omega) hs (by rw [e]; exact Int.le_refl _)) ?_
        intro x hx hx2
        show _ = kv K p m
        rcases Nat.lt_or_ge x m with h' | h'
        · rw [e]; exact he x (by omega) h'
        · have : x = m := by omega
          rw [this]
theorem tail3_gives {p : Array Nat} {m : Nat} (P : PP n p) (h1 : 1 ≤ m) (h2 : m ≤ n) (hs : FallT K p m) : Gives Inv cmp (kas_tail3 m n p) fun r => PP n r.2 ∧ 1 ≤ r.1 ∧ r.1 ≤ n ∧ SortT K r.2 r.1 := by
  refine Gives.bind (asc_gives A (P.rev 0 m) (n - m) m h1 (by omega) ?_) fun a ha => .ret ⟨P.rev 0 m, by dsimp only; omega, by dsimp only; omega, ha.2.2.1⟩
  intro x y hx hy
  rw [kv_rev (by rw [P.size]; omega), kv_rev (by rw [P.size]; omega), if_pos ⟨Nat.zero_le _, by omega⟩, if_pos ⟨Nat.zero_le _, by omega⟩]
  exact hs _ _ (by omega) (by omega)
theorem descPart_gives {p : Array Nat} {m : Nat} (P : PP n p) (h1 : 1 ≤ m) (h2 : m < n) (hs : FallT K p (m + 1)) : Gives Inv cmp (kas_descPart m n p) fun r => PP n r.2 ∧ 1 ≤ r.1 ∧ r.1 ≤ n ∧ SortT K r.2 r.1 := by
  refine Gives.bind (desc_gives A (n - (m + 1)) p (m + 1) 0 P (by omega) (by omega) hs (fun x hx hx2 => ?_)) fun r hr => ?_
  · have : x = m + 1 - 1 := by omega
    rw [this]
  · obtain ⟨p', m', q⟩ := r
    obtain ⟨P', a1, a2, a3, a4⟩ := hr
    dsimp only at P' a1 a2 a3 a4 ⊢
    split
    · refine tail3_gives A (P'.rev _ _) (by omega) a2 ?_
      have hb : ∀ x, kv K (kas_rev p' (m' - (q + 1)) m') x = kv K p' x := by
        intro x
        rw [kv_rev (by rw [P'.size]; omega)]
        split
        · rw [a4 (m' - (q + 1) + m' - 1 - x) (by omega) (by omega), a4 x (by omega) (by omega)]
        · rfl
      intro x y hx hy
      rw [hb, hb]
      exact a3 x y hx hy
    · exact tail3_gives A P' (by omega) a2 a3
theorem count_gives {p : Array Nat} (P : PP n p) (h1 : 1 ≤ n) : Gives Inv cmp (kas_count n p) fun r => PP n r.2 ∧ 1 ≤ r.1 ∧ r.1 ≤ n ∧ SortT K r.2 r.1 := by
  refine Gives.bind (asc_gives A P (n - 1) 1 (by omega) (by omega) (fun x y hx hy => ?_)) fun m hm => ?_
  · have : x = y := by omega
    rw [this]; exact Int.le_refl _
  · obtain ⟨a1, a2, a3, a4⟩ := hm
    split
    · exact .ret ⟨P, a1, by dsimp only; omega, a3⟩
    · rename_i hne
      have hne' : m ≠ n := by simpa using hne
      have hlt := a4 (by omega)
      split
      · refine .ask A (P.lt (by omega)) (P.lt (by omega)) (fun h => ?_) (fun h => ?_)
        · exact .ret ⟨P, a1, by dsimp only; omega, a3⟩
        · have hall : ∀ x, x < m → kv K p x = kv K p 0 := fun x hx => Int.le_antisymm (Int.le_trans (a3 x (m - 1) (by omega) (by omega)) (Int.not_lt.mp h)) (a3 0 x (by omega) hx)
          have hb : ∀ x, kv K (kas_rev p 0 m) x = kv K p x := by
            intro x
            rw [kv_rev (by rw [P.size]; omega)]
            split
            · rw [hall _ (by omega), hall x (by omega)]
            · rfl
          refine descPart_gives A (P.rev 0 m) (by omega) (by omega) (FallT.step (by omega) (fun x y hx hy => ?_) ?_)
          · rw [hb, hb, hall y hy, hall x (by omega)]; exact Int.le_refl _
          · rw [hb, hb]; exact Int.le_of_lt hlt
      · have e : m = 1 := by omega
        subst e
        refine descPart_gives A P (by omega) (by omega) (FallT.step (by omega) (fun x y hx hy => ?_) (Int.le_of_lt hlt))
        have : x = y := by omega
        rw [this]; exact Int.le_refl _
theorem place_gives {p : Array Nat} {k : Nat} (P : PP n p) (hk : k < n) (hs : SortT K p k) : ∀ (f l r : Nat), r - l ≤ f → l ≤ r → r ≤ k → (∀ x, x < l → kv K p x ≤ kv K p k) → (∀ x, r ≤ x → x < k → kv K p k ≤ kv K p x) →
    Gives Inv cmp (kas_place p k f l r) fun l' => l' ≤ k ∧ (∀ x, x < l' → kv K p x ≤ kv K p k) ∧ (∀ x, l' ≤ x → x < k → kv K p k ≤ kv K p x)
  | 0, l, r, h1, h2, h3, a, b => .ret ⟨by omega, a, fun x hx => b x (by omega)⟩
  | f + 1, l, r, h1, h2, h3, a, b => by
    unfold kas_place
    split
    · exact .ret ⟨by omega, a, fun x hx => b x (by omega)⟩
    · refine .ask A (P.lt (by omega)) (P.lt (by omega)) (fun h => ?_) (fun h => ?_)
      · rw [if_pos rfl]
        refine place_gives P hk hs f l ((l + r) / 2) (by omega) (by omega) (by omega) a (fun x hx hx2 => ?_)
        exact Int.le_trans (Int.le_of_lt h) (hs _ _ hx hx2)
      · rw [if_neg (by simp)]
        refine place_gives P hk hs f ((l + r) / 2 + 1) r (by omega) (by omega) (by omega) (fun x hx => ?_) b
        exact Int.le_trans (hs x ((l + r) / 2) (by omega) (by omega)) (Int.not_lt.mp h)
theorem bin_gives : ∀ (f : Nat) (p : Array Nat) (k : Nat), PP n p → k + f = n → SortT K p k → Gives Inv cmp (kas_bin f p k) fun p' => PP n p' ∧ SortT K p' n
  | 0, p, k, P, h1, hs => .ret ⟨P, by rw [show n = k by omega]; exact hs⟩
  | f + 1, p, k, P, h1, hs => by
    refine Gives.bind (place_gives A P (by omega) hs k 0 k (by omega) (by omega) (by omega) (fun x hx => by omega) (fun x hx hx2 => by omega)) fun l hl => ?_
    obtain ⟨hl, ha, hb⟩ := hl
    refine bin_gives f _ (k + 1) (P.bub _ _) (by omega) (fun x y hx hy => ?_)
    rw [kv_bub (by rw [P.size]; omega) (by omega), kv_bub (by rw [P.size]; omega) (by omega)]
    have e : k - (k - l) = l := by omega
    rw [e]
    by_cases h1 : x = l
    · rw [if_pos h1]
      by_cases h2 : y = l
      · rw [if_pos h2]; exact Int.le_refl _
      · rw [if_neg h2, if_pos ⟨by omega, by omega⟩]; exact hb _ (by omega) (by omega)
    · rw [if_neg h1]
      by_cases h3 : l < x ∧ x ≤ k
      · rw [if_pos h3, if_neg (by omega), if_pos ⟨by omega, by omega⟩]; exact hs _ _ (by omega) (by omega)
      · rw [if_neg h3]
        by_cases h2 : y = l
        · rw [if_pos h2]; exact ha _ (by omega)
        · rw [if_neg h2]
          by_cases h4 : l < y ∧ y ≤ k
          · rw [if_pos h4]; exact hs _ _ (by omega) (by omega)
          · rw [if_neg h4]; exact hs _ _ hx (by omega)
theorem sort_gives (h1 : 1 ≤ n) : Gives Inv cmp (kas_sort n) fun p => PP n p ∧ SortT K p n := by
  refine Gives.bind (count_gives A (Array.Perm.refl _) h1) fun r hr => ?_
  obtain ⟨a1, a2, a3, a4⟩ := hr
  split
  · have e : max r.1 1 = r.1 := by omega
    rw [e]
    exact bin_gives A _ _ _ a1 (by omega) a4
  · exact .ret ⟨a1, by rw [show n = r.1 by omega]; exact a4⟩
end



abbrev keyD (sc : Int) (q : Int × Int) : Dat := .tuple [.int 0, .int (q.1 * sc.fdiv q.2)]
abbrev keyO (k : Int) (t u : Tok) (n : Nat) : Obj := { cls := .type "tuple", data := .seq #[.int 0 t, .int k u] n }
section
variable {prog : Program} {A : Around} {E : Value → Shared → Prop} {s : Shared} {h₀ : Heap} {L : Addr} {m : Str → Option Value} {news : Led}
/-- what the key function tells at an item of the ledger -/
def PlaceTells (prog : Program) (w : World) (A : Around) (h₀ : Heap) (L : Addr) (m : Str → Option Value) (f : Addr) (news : Led) (sc : Int) : Prop :=
  ∀ (s : Shared) (all : Led) (v : Value) (n d : Int) (Q : Value → Shared → Prop), Fr h₀ L s.heap m → News h₀ L s.heap all → (∀ p ∈ news, p ∈ all) → IsQ news v n d → 0 < d ∧ d < 2 ^ 14 →
    (∀ D t u k h' tk', Fr h₀ L h' m → News h₀ L h' ((D, keyO (n * sc.fdiv d) t u k) :: all) → (∀ p ∈ all, p.1 < D) → Q (.ref D) { s with heap := h', toks := tk' }) →
    wpAny (model prog w) A (call (.ref f) [v]) Q (fun _ _ => False) s
theorem updF_mid {P : Addr} {o : Obj} : ∀ {pre post : Led}, (∀ p ∈ pre, p.1 ≠ P) → (∀ p ∈ post, p.1 ≠ P) → UpdF P o (pre ++ (P, o) :: post) (fun o' => pre ++ (P, o') :: post)
  | [], _, _, h => .head h
  | _ :: _, _, a, h => .tail (a _ (.head _)) (updF_mid (fun q hq => a q (.tail _ hq)) h)
theorem keys_go {kS f : Addr} {Fin : List Value → Nat → Shared → Prop} {base : Led} {sc : Int} (P : PlaceTells prog w A h₀ L m f news sc) (hsub : ∀ p ∈ news, p ∈ base) (hb : ∀ p ∈ base, p.1 ≠ kS) :
    ∀ (vs : List Value) (qs : List (Int × Int)) (ks : List Value) (ds : List Dat) (tl : Led) (e : Nat) (s : Shared), IsQs news vs qs → (∀ q ∈ qs, 0 < q.2 ∧ q.2 < 2 ^ 14) → Fr h₀ L s.heap m → News h₀ L s.heap (tl ++ (kS, seqObj "list" (List.toArray ks) e) :: base) →
      (∀ p ∈ tl, p.1 ≠ kS) → OwnOff tl (base.map (·.1)) → DatAll tl ks ds →
      (∀ tl' ks' e' h' tk', Fr h₀ L h' m → News h₀ L h' (tl' ++ (kS, seqObj "list" (List.toArray ks') e') :: base) → (∀ p ∈ tl', p.1 ≠ kS) → OwnOff tl' (base.map (·.1)) → DatAll tl' ks' (ds ++ qs.map (keyD sc)) → Fin ks' e' { s with heap := h', toks := tk' }) →
      KatKeys prog w A h₀ L m kS (.ref f) Fin vs ks e s
  | [], qs, ks, ds, tl, e, s, hq, h0, F, N, k1, k2, hd, fin => by
    have hq0 : qs = [] := by
      cases qs with
      | nil => rfl
      | cons _ _ => exact absurd (DatAll.length hq) (by simp)
    subst hq0
    refine KatKeys.nil (fin tl ks e s.heap s.toks F N k1 k2 ?_)
    simpa using hd
  | v :: vs, qs, ks, ds, tl, e, s, hq, h0, F, N, k1, k2, hd, fin => by
    cases qs with
    | nil => exact absurd (DatAll.length hq) (by simp)
    | cons q qs =>
      cases hq with
      | cons hq1 hq2 =>
        refine KatKeys.cons (P s _ v q.1 q.2 _ F N (fun p hp => List.mem_append.mpr (.inr (.tail _ (hsub p hp)))) (isQ_of hq1) (h0 q (.head _)) fun D t u k h' tk' F' N' lt => ?_)
        have nk : D ≠ kS := Nat.ne_of_gt (lt (kS, _) (List.mem_append.mpr (.inr (.head _))))
        have k1' : ∀ p ∈ (D, keyO (q.1 * sc.fdiv q.2) t u k) :: tl, p.1 ≠ kS := by
          intro p hp
          rcases List.mem_cons.mp hp with rfl | hp
          · exact nk
          · exact k1 p hp
        refine KatBack.intro (s := { s with heap := h', toks := tk' }) F' N' (updF_mid (pre := (D, keyO (q.1 * sc.fdiv q.2) t u k) :: tl) k1' hb) fun h2 c F2 N2 => ?_
        refine keys_go P hsub hb vs qs (ks ++ [.ref D]) (ds ++ [keyD sc q]) ((D, keyO (q.1 * sc.fdiv q.2) t u k) :: tl) c { s with heap := h2, toks := tk' } hq2 (fun q hq => h0 q (.tail _ hq)) F2 N2 k1' ?_ ?_ ?_
        · intro p hp b hb'
          rcases List.mem_cons.mp hp with rfl | hp
          · obtain ⟨x, hx, rfl⟩ := List.mem_map.mp hb'
            exact Nat.ne_of_gt (lt x (List.mem_append.mpr (.inr (.tail _ hx))))
          · exact k2 p hp b hb'
        · exact DatAll.append (DatAll.mono (fun p hp => .tail _ hp) hd) (.one (.tuple (vs := [.int 0 t, .int _ u]) (.head _) (.cons (.int _ _) (.cons (.int _ _) .nil))))
        · intro tl' ks' e' h3 tk3 F3 N3 a1 a2 a3
          exact fin tl' ks' e' h3 tk3 F3 N3 a1 a2 (by simpa using a3)
theorem key_at {tl : Led} {ks : List Value} {qs : List (Int × Int)} {sc : Int} (h : DatAll tl ks (qs.map (keyD sc))) {i : Nat} (hi : i < qs.length) :
    ∃ a t u k, ks.getD i Value.none = .ref a ∧ (a, keyO ((qs.getD i (0, 1)).1 * sc.fdiv (qs.getD i (0, 1)).2) t u k) ∈ tl := by
  obtain ⟨v, hv, hd⟩ := DatAll.get h (k := i) (by simpa using hi)
  have e : (qs.map (keyD sc))[i]'(by simpa using hi) = keyD sc (qs.getD i (0, 1)) := by simp [hi]
  rw [e] at hd
  have ev : ks.getD i Value.none = v := by rw [List.getD_eq_getElem?_getD, hv]; rfl
  rw [ev]
  cases hd with
  | tuple hm r =>
    cases r with
    | cons h1 r =>
      cases r with
      | cons h2 r =>
        cases r
        cases h1
        cases h2
        exact ⟨_, _, _, _, rfl, hm⟩
theorem key_tups {h : Heap} {all : Led} (N : News h₀ L h all) : ∀ {tl : Led} {ks : List Value} {qs : List (Int × Int)} {sc : Int}, (∀ p ∈ tl, p ∈ all) → DatAll tl ks (qs.map (keyD sc)) → ∃ fs, KatTups h ks fs ∧ fs.length = qs.length ∧ ∀ v ∈ fs, ∃ t, v = .int 0 t
  | _, [], qs, sc, _, hd => by
    cases qs with
    | nil => exact ⟨[], .nil, rfl, fun _ h => nomatch h⟩
    | cons _ _ => exact absurd (DatAll.length hd) (by simp)
  | _, v :: ks, qs, sc, hs, hd => by
    cases qs with
    | nil => exact absurd (DatAll.length hd) (by simp)
    | cons q qs =>
      cases hd with
      | cons h1 h2 =>
        obtain ⟨fs, a1, a2, a3⟩ := key_tups N hs h2
        cases h1 with
        | tuple hm r =>
          cases r with
          | cons b1 r =>
            cases b1 with
            | int _ t =>
              refine ⟨.int 0 t :: fs, KatTups.cons (N _ (hs _ hm)).1 rfl rfl (by simp) a1, by simp [a2], ?_⟩
              intro v hv
              rcases List.mem_cons.mp hv with rfl | hv
              · exact ⟨t, rfl⟩
              · exact a3 v hv
theorem key_cmp {x y : Int} {a b : Addr} {t1 u1 t2 u2 : Tok} {n1 n2 : Nat} {C : Bool → Shared → Prop} (ha : s.heap.get? a = some (keyO x t1 u1 n1)) (hb : s.heap.get? b = some (keyO y t2 u2 n2)) (hC : C (decide (x < y)) s) :
    wpAny (model prog w) A (keyLt' (tuples' true) (.ref a) (.ref b)) C (fun _ _ => False) s := by
  refine kat_lt ha rfl hb rfl ?_
  refine kat_cons (wpAny_eqBool_int ?_)
  refine kat_yes (kat_cons (wpAny_eqBool_int ?_))
  refine kat_go (fun he => ?_) (fun he => ?_)
  · refine kat_yes (kat_nil ?_)
    have he' : x = y := by simpa using he
    subst he'
    rw [decide_eq_false (Int.lt_irrefl _)] at hC
    exact hC
  · exact kat_no (kat_one _ _ (PyProof.Rows.lt_int hC))
theorem key_answers {tl all : Led} {ks : List Value} {qs : List (Int × Int)} {sc : Int} (N : News h₀ L s.heap all) (hs : ∀ p ∈ tl, p ∈ all) (hd : DatAll tl ks (qs.map (keyD sc))) :
    Answers qs.length (fun i => (qs.getD i (0, 1)).1 * sc.fdiv (qs.getD i (0, 1)).2) (fun s' => ∃ tk, s' = { s with toks := tk }) (kas_ask prog w A (tuples' true) ks) := by
  intro i j C s' hi hj hI hC
  dsimp only at hC
  obtain ⟨tk, rfl⟩ := hI
  obtain ⟨a, t1, u1, n1, ea, ha⟩ := key_at hd hi
  obtain ⟨b, t2, u2, n2, eb, hb⟩ := key_at hd hj
  unfold kas_ask
  rw [ea, eb]
  exact key_cmp (s := { s with toks := tk }) (N _ (hs _ ha)).1 (N _ (hs _ hb)).1 (hC _ ⟨tk, rfl⟩)
end



section
variable {prog : Program} {A : Around} {E : Value → Shared → Prop} {s : Shared} {h₀ : Heap} {L kS a l : Addr} {m : Str → Option Value} {news : Led}
/-- the sort's end where there is one item: nothing is compared -/
theorem one_end {v k : Value} {e e1 : Nat} {P : PySem.Fin → Shared → Prop} (fin : KatFin h₀ L m kS a [k] e e1 [v] (fun s3 => P (.done (.ret .none)) s3) s) :
    wpAny (model prog w) A (ksk_end a false #[v] e1 (.ref kS) #[k]) P E s := by
  unfold ksk_end
  dsimp only
  rw [if_neg (by simp : ¬ (false = true))]
  have hn : (#[v] : Array Value).size < 2 := by simp
  simp only [hn, if_true]
  refine wpAny_bind (wpAny_pure ?_)
  refine wpAny_bind ?_
  show wpAny _ _ (StateT.run (pure ()) _) _ _ _
  rw [StateT.run_pure]
  refine wpAny_pure ?_
  dsimp only
  exact kat_tail (b := false) (out := [v]) (ks := [k]) (by show Array.map (fun x : Value × Value => x.2) (Array.zip #[k] #[v]) = _; simp) (by simp) (by simp) rfl fin
theorem one_rest {v f : Value} {e1 : Nat} {P : PySem.Fin → Shared → Prop} (hk : s.heap.get? kS = some (seqObj "list" #[] 0))
    (h : wpAny (model prog w) A (call f [v]) (KatBack h₀ L m kS [] 0 fun k c s' => KatFin h₀ L m kS a [k] c e1 [v] (fun s4 => P (.done (.ret .none)) s4) s') (fun _ _ => False) s) :
    wpAny (model prog w) A (ksk_rest a f false #[v] e1 (.ref kS)) P E s := by
  unfold ksk_rest
  refine wpAny_bind (wpAny_rule ?_)
  rw [← Array.forIn_toList]
  show wpAny _ _ (forIn [v] _ _ >>= _) _ _ _
  rw [List.forIn_cons]
  refine wpAny_bind (wpAny_bind (wpAny_bind (wpAny_attempt (wpAny_mono h (fun k s2 hb => ?_) fun _ _ x => x.elim))))
  obtain ⟨led, g, F2, N2, U, next⟩ := hb
  obtain ⟨pre, post, rfl, hg, x1, x2⟩ := U.split
  have at_ := N2 (kS, seqObj "list" (List.toArray []) 0) (List.mem_append_right _ (.head _))
  have but := Heap.SameBut.update s2.heap kS (Obj.mapSeq (·.push k))
  obtain ⟨c, hc⟩ : ∃ c, (s2.heap.update kS (Obj.mapSeq (·.push k))).get? kS = some (seqObj "list" #[k] c) := ⟨_, get?_update_seq at_.1 (·.push k)⟩
  dsimp only
  refine wpAny_bind (listUpdate_at at_.1 rfl ?_ (by simp [sizeLine_eq]) (by simp [sizeLine_eq]))
  refine wpAny_pure ?_
  show wpAny _ _ (forIn [] _ _) _ _ _
  rw [List.forIn_nil]
  refine wpAny_pure ?_
  refine wpAny_bind (listItems_at hc rfl ?_)
  exact one_end (next _ c (kas_fr F2 but at_.2.1 at_.2.2) (by rw [hg]; exact news_set N2 x1 x2 but hc))
theorem one_keyed {v f : Value} {n : Nat} {P : PySem.Fin → Shared → Prop} (F : Fr h₀ L s.heap m) (N : News h₀ L s.heap news) (ho : s.heap.get? a = some (seqObj "list" #[v] n)) (haL : a ≠ L) (ha0 : h₀.get? a = none) (hna : ∀ p ∈ news, p.1 ≠ a)
    (h : ∀ kS e1 h', Fr h₀ L h' m → News h₀ L h' ((kS, seqObj "list" #[] 0) :: (a, seqObj "list" #[] e1) :: news) → a < kS → (∀ q ∈ news, q.1 < kS) →
      wpAny (model prog w) A (call f [v]) (KatBack h₀ L m kS [] 0 fun k c s' => KatFin h₀ L m kS a [k] c e1 [v] (fun s4 => P (.done (.ret .none)) s4) s') (fun _ _ => False) { s with heap := h' }) :
    wpAny (model prog w) A (ksk_tree a f false) P E s := by
  have below : a < s.heap.objs.size := Heap.lt_size ho
  have but := Heap.SameBut.update s.heap a (Obj.mapSeq fun _ => (#[] : Array Value))
  obtain ⟨e1, ho1⟩ : ∃ e1, (s.heap.update a (Obj.mapSeq fun _ => (#[] : Array Value))).get? a = some (seqObj "list" #[] e1) := ⟨_, get?_update_seq ho fun _ => #[]⟩
  have F1 := (kas_fr F but haL ha0).push (seqObj "tuple" #[v] 0)
  have N1 := kas_news N but hna
  have top : ((s.heap.update a (Obj.mapSeq fun _ => (#[] : Array Value))).push (seqObj "tuple" #[v] 0)).objs.size = s.heap.objs.size + 1 := by rw [size_push', Heap.size_update]
  have hL : L < ((s.heap.update a (Obj.mapSeq fun _ => (#[] : Array Value))).push (seqObj "tuple" #[v] 0)).objs.size := F1.ns.lt
  unfold ksk_tree
  refine wpAny_bind (listItems_at ho rfl ?_)
  refine wpAny_bind (listUpdate_at ho rfl ?_ (by simp [sizeLine_eq]) (Nat.zero_le _))
  refine wpAny_bind (seqEpoch_at ho1 rfl ?_)
  refine wpAny_bind (wpAny_newTuple ?_ (by simp [sizeLine_eq]))
  refine wpAny_bind (wpAny_newList ?_ (Nat.zero_le _))
  refine wpAny_holding (one_rest (Heap.get?_push_size _ rfl) (h _ e1 _ (F1.push _) (fun p hp => ?_) ?_ fun q hq => ?_))
  · rcases List.mem_cons.mp hp with rfl | hp
    · exact ⟨Heap.get?_push_size _ rfl, Nat.ne_of_gt hL, Heap.get?_none_of_le (Nat.le_trans F.above (Nat.le_of_lt hL))⟩
    · rcases List.mem_cons.mp hp with rfl | hp
      · exact ⟨Heap.get?_push_of_some _ (Heap.get?_push_of_some _ ho1), haL, ha0⟩
      · exact ⟨Heap.get?_push_of_some _ (Heap.get?_push_of_some _ (N1 p hp).1), (N1 p hp).2⟩
  · exact Nat.lt_of_lt_of_eq (Nat.lt_succ_of_lt below) top.symm
  · exact Nat.lt_of_lt_of_eq (Nat.lt_succ_of_lt (Heap.lt_size (N q hq).1)) top.symm
theorem one_sorted {v : Value} {f : Addr} {Q : Value → Shared → Prop} (F : Fr h₀ L s.heap m) (N : News h₀ L s.heap news) (hl : s.heap.IsList l #[v])
    (h : ∀ D kS e1 h', Fr h₀ L h' m → News h₀ L h' ((kS, seqObj "list" #[] 0) :: (D, seqObj "list" #[] e1) :: news) → D < kS → (∀ q ∈ news, q.1 < D) →
      wpAny (model prog w) A.in1.in1 (call (.ref f) [v]) (KatBack h₀ L m kS [] 0 fun k c s' => KatFin h₀ L m kS D [k] c e1 [v] (fun s4 => Q (.ref D) s4) s') (fun _ _ => False) { s with heap := h' }) :
    wpAny (model prog w) A (call (.builtin "sorted") [.ref l] [(Str.ofString "key", .ref f)]) Q E s := by
  refine call_function_entry_kw kind_sorted plain_sorted entry_sorted (ksk_s1 _ _) ?_
  unfold Builtin.«sorted»
  refine wpAny_bind (m := checkCount "sorted" 1 1 _) (wpAny_pure ?_)
  refine wpAny_bind (collect_list (vs := [v]) hl ?_ (by simp [sizeLine_eq]))
  refine wpAny_bind (wpAny_newList ?_ (by simp [sizeLine_eq]))
  have top : ((s.heap.push (seqObj "list" #[] 0)).update s.heap.objs.size (Obj.mapSeq (· ++ #[v]))).objs.size = s.heap.objs.size + 1 := by rw [Heap.size_update, size_push']
  have hoL : (((s.heap.push (seqObj "list" #[] 0)).update s.heap.objs.size (Obj.mapSeq (· ++ #[v]))).push (seqObj "list" #[v] 0)).get? (s.heap.objs.size + 1) = some (seqObj "list" #[v] 0) := by
    rw [← top]; exact Heap.get?_push_size _ rfl
  have keep : ∀ b o, s.heap.get? b = some o → (((s.heap.push (seqObj "list" #[] 0)).update s.heap.objs.size (Obj.mapSeq (· ++ #[v]))).push (seqObj "list" #[v] 0)).get? b = some o := fun b o q => by
    have hlt : b < s.heap.objs.size := Heap.lt_size q
    rw [Heap.get?_push_ne _ _ _ (by rw [top]; exact Nat.ne_of_lt (Nat.lt_succ_of_lt hlt)), Heap.get?_update_ne _ _ _ _ (Nat.ne_of_lt hlt), Heap.get?_push_ne _ _ _ (Nat.ne_of_lt hlt)]
    exact q
  have hL : L < s.heap.objs.size := F.ns.lt
  show wpAny _ _ _ _ _ { s with heap := ((s.heap.push (seqObj "list" #[] 0)).update s.heap.objs.size (Obj.mapSeq (· ++ #[v]))).push (seqObj "list" #[v] 0) }
  rw [top]
  refine wpAny_bind (wpAny_holding (wpAny_call_entry_kw slot_list_sort ⟨_, hoL, rfl⟩ entry_list_sort ?body (ksk_l1 _ _)))
  case body =>
    show wpAny (model prog w) A.in1.in1 (Builtin.«list.sort» ⟨[.ref (s.heap.objs.size + 1)], [(Str.ofString "key", .ref f)]⟩) _ _ _
    rw [ksk_t1]
    refine one_keyed (s := { s with heap := ((s.heap.push (seqObj "list" #[] 0)).update s.heap.objs.size (Obj.mapSeq (· ++ #[v]))).push (seqObj "list" #[v] 0) })
      (F.kept keep) (N.grown keep) hoL (Nat.ne_of_gt (Nat.lt_succ_of_lt hL)) (Heap.get?_none_of_le (Nat.le_trans F.above (Nat.le_succ_of_le (Nat.le_of_lt hL))))
      (fun p hp => Nat.ne_of_lt (Nat.lt_succ_of_lt (Heap.lt_size (N p hp).1))) fun kS e1 h' F' N' l0 l1 => ?_
    refine wpAny_mono (h _ kS e1 h' F' N' l0 fun q hq => Nat.lt_succ_of_lt (Heap.lt_size (N q hq).1)) (fun k s' hk => ?_) fun _ _ x => x
    obtain ⟨led, g, F2, N2, U, next⟩ := hk
    exact ⟨led, g, F2, N2, U, fun h2 c F3 N3 => (next h2 c F3 N3).mono fun s4 hq => ⟨_, rfl, wpAny_pure ⟨_, rfl, hq⟩⟩⟩
/-- the items in the order p -/
def outs (us : List Value) (p : Array Nat) : List Value := p.toList.map fun i => us.getD i Value.none
abbrev keyOf (sc : Int) (qs : List (Int × Int)) (i : Nat) : Int := (qs.getD i (0, 1)).1 * sc.fdiv (qs.getD i (0, 1)).2
theorem sorted_q {us : List Value} {qs : List (Int × Int)} {c0 : Nat} {f : Addr} {sc : Int} {Q : Value → Shared → Prop} (F : Fr h₀ L s.heap m) (N : News h₀ L s.heap news) (hm : (l, listOf us.toArray c0) ∈ news) (hq : IsQs news us qs) (h0 : ∀ q ∈ qs, 0 < q.2 ∧ q.2 < 2 ^ 14)
    (h1 : 0 < qs.length) (h64 : qs.length < 64) (P : PlaceTells prog w A.in1.in1 h₀ L m f news sc)
    (ret : ∀ p D c tl h' tk', PP qs.length p → SortT (keyOf sc qs) p qs.length → Fr h₀ L h' m → News h₀ L h' (tl ++ news) → OwnOff tl (news.map (·.1)) → (D, listOf (outs us p).toArray c) ∈ tl → Q (.ref D) { s with heap := h', toks := tk' }) :
    wpAny (model prog w) A (call (.builtin "sorted") [.ref l] [(Str.ofString "key", .ref f)]) Q E s := by
  have hlen : us.length = qs.length := by rw [DatAll.length hq, List.length_map]
  have last : ∀ (D kS : Addr) (e1 : Nat), D < kS → (∀ q ∈ news, q.1 < D) → ∀ (tl : Led) (ks : List Value) (e : Nat) (s' : Shared) (p : Array Nat), (∃ tk, s' = { s with heap := s'.heap, toks := tk }) → Fr h₀ L s'.heap m → News h₀ L s'.heap (tl ++ (kS, seqObj "list" (List.toArray ks) e) :: (D, seqObj "list" #[] e1) :: news) →
      (∀ p ∈ tl, p.1 ≠ kS) → OwnOff tl (((D, seqObj "list" #[] e1) :: news).map (·.1)) → PP qs.length p → SortT (keyOf sc qs) p qs.length →
      KatFin h₀ L m kS D ks e e1 (outs us p) (fun s4 => Q (.ref D) s4) s' := by
    intro D kS e1 lDk lD tl ks e s' p hs' F' N' k1 k2 hp hsrt
    obtain ⟨tk, hs'⟩ := hs'
    have nD : D ≠ kS := Nat.ne_of_lt lDk
    have b1 : ∀ q ∈ (D, seqObj "list" #[] e1) :: news, q.1 ≠ kS := by
      intro q hq
      rcases List.mem_cons.mp hq with rfl | hq
      · exact nD
      · exact Nat.ne_of_lt (Nat.lt_trans (lD q hq) lDk)
    refine KatFin.intro F' N' (updF_mid k1 b1) fun h2 c F2 N2 => ?_
    have c1 : ∀ q ∈ tl ++ [(kS, seqObj "list" #[] c)], q.1 ≠ D := by
      intro q hq
      rcases List.mem_append.mp hq with hq | hq
      · exact fun e => k2 q hq D (.head _) e
      · rw [List.mem_singleton.mp hq]; exact nD.symm
    have N3 : News h₀ L h2 ((tl ++ [(kS, seqObj "list" #[] c)]) ++ (D, seqObj "list" #[] e1) :: news) := by
      intro q hq
      refine N2 q ?_
      simpa using hq
    refine KasFin.intro (s := { s' with heap := h2 }) F2 N3 (updF_mid c1 fun q hq => Nat.ne_of_lt (lD q hq)) fun h3 c3 F3 N4 => ?_
    have e4 : ({ s' with heap := h3 } : Shared) = { s with heap := h3, toks := tk } := by rw [hs']
    show Q (.ref D) { s' with heap := h3 }
    rw [e4]
    refine ret p D c3 ((tl ++ [(kS, seqObj "list" #[] c)]) ++ [(D, listOf (outs us p).toArray c3)]) h3 tk hp hsrt F3 (by simpa using N4) ?_ ?_
    · intro q hq b hb
      obtain ⟨x, hx, rfl⟩ := List.mem_map.mp hb
      simp only [List.mem_append, List.mem_singleton] at hq
      rcases hq with (hq | rfl) | rfl
      · exact k2 q hq _ (List.mem_map.mpr ⟨x, .tail _ hx, rfl⟩)
      · exact Nat.ne_of_gt (Nat.lt_trans (lD x hx) lDk)
      · exact Nat.ne_of_gt (lD x hx)
    · simp
  rcases Nat.lt_or_ge us.length 2 with hone | htwo
  · obtain ⟨v, rfl⟩ : ∃ v, us = [v] := List.length_eq_one_iff.mp (by omega)
    obtain ⟨q, rfl⟩ : ∃ q, qs = [q] := List.length_eq_one_iff.mp (by simpa using hlen.symm)
    refine one_sorted F N (isQ_list N hm) fun D kS e1 h' F' N' lDk lD => ?_
    have go := keys_go (prog := prog) (A := A.in1.in1) (Fin := fun ks e s' => ∃ k, ks = [k] ∧ KatFin h₀ L m kS D [k] e e1 [v] (fun s4 => Q (.ref D) s4) s') (base := (D, seqObj "list" #[] e1) :: news) P (fun p hp => .tail _ hp) (by
        intro q hq
        rcases List.mem_cons.mp hq with rfl | hq
        · exact Nat.ne_of_lt lDk
        · exact Nat.ne_of_lt (Nat.lt_trans (lD q hq) lDk)) [v] [q] [] [] [] 0 { s with heap := h' } hq h0 F' N' (fun _ h => nomatch h) (fun _ h => nomatch h) .nil (by
        intro tl ks e h2 tk F2 N2 k1 k2 hd
        have hl1 : ks.length = 1 := by rw [DatAll.length hd]; rfl
        obtain ⟨k, rfl⟩ := List.length_eq_one_iff.mp hl1
        refine ⟨k, rfl, ?_⟩
        have := last D kS e1 lDk lD tl [k] e { s with heap := h2, toks := tk } #[0] ⟨tk, rfl⟩ F2 N2 k1 k2 (Array.Perm.refl _) (by
          intro x y hx hy
          have : y = 0 := by simpa using hy
          have : x = y := by omega
          rw [this]; exact Int.le_refl _)
        simpa [outs] using this)
    refine wpAny_mono (show wpAny (model prog w) A.in1.in1 (call (.ref f) [v]) (KatBack h₀ L m kS [] 0 _) _ _ from go) (fun k s' hk => ?_) fun _ _ x => x
    obtain ⟨led, g, F2, N2, U, next⟩ := hk
    refine ⟨led, g, F2, N2, U, fun h2 c F3 N3 => ?_⟩
    obtain ⟨k', e', fin⟩ := next h2 c F3 N3
    have e'' : k' = k := by simpa using e'.symm
    subst e''
    exact fin
  · refine kat_sortedK (b := false) F N (isQ_list N hm) htwo (by omega) (ksk_s1 _ _) (fun _ => ksk_l1 _ _) (fun _ => ksk_t1 _ _) fun D kS e1 h' F' N' lDk lD => ?_
    refine keys_go (base := (D, seqObj "list" #[] e1) :: news) P (fun p hp => .tail _ hp) (by
        intro q hq
        rcases List.mem_cons.mp hq with rfl | hq
        · exact Nat.ne_of_lt lDk
        · exact Nat.ne_of_lt (Nat.lt_trans (lD q hq) lDk)) us qs [] [] [] 0 { s with heap := h' } hq h0 F' N' (fun _ h => nomatch h) (fun _ h => nomatch h) .nil ?_
    intro tl ks e h2 tk F2 N2 k1 k2 hd
    rw [List.nil_append] at hd
    obtain ⟨fs, t1, t2, t3⟩ := key_tups N2 (fun p hp => List.mem_append.mpr (.inl hp)) hd
    refine kat_kind (T := Value.type "int") t1 (by omega) (fun v hv => ?_) (by decide) ?_
    · obtain ⟨t, rfl⟩ := t3 v hv
      exact Looks.of_pure rfl
    · show (kas_sort us.length).kasWp (kas_ask prog w A.in1.in1 (tuples' true) ks) _ _
      rw [hlen]
      refine sort_gives (key_answers (s := { s with heap := h2, toks := tk }) N2 (fun p hp => List.mem_append.mpr (.inl hp)) hd) h1 _ _ ⟨_, rfl⟩ fun p s' hp hs' => ?_
      obtain ⟨tk2, rfl⟩ := hs'
      exact last D kS e1 lDk lD tl ks e _ p ⟨tk2, rfl⟩ F2 N2 k1 k2 hp.1 hp.2
end



theorem pp_list {n : Nat} {p : Array Nat} (h : PP n p) : p.toList.Perm (List.range n) := by
  have := Array.perm_iff_toList_perm.mp h
  simpa using this
theorem range_getD {α : Type} (qs : List α) (d : α) : (List.range qs.length).map (fun i => qs.getD i d) = qs := by
  apply List.ext_getElem?
  intro i
  rw [List.getElem?_map]
  by_cases h : i < qs.length
  · rw [List.getElem?_range h]; simp [h]
  · rw [List.getElem?_eq_none (by simpa using Nat.le_of_not_lt h), List.getElem?_eq_none (Nat.le_of_not_lt h)]; rfl
def outQ (qs : List (Int × Int)) (p : Array Nat) : List (Int × Int) := p.toList.map fun i => qs.getD i (0, 1)
theorem outQ_perm {qs : List (Int × Int)} {p : Array Nat} (h : PP qs.length p) : (outQ qs p).Perm qs := by
  have := (pp_list h).map (fun i => qs.getD i (0, 1))
  rw [range_getD] at this
  exact this
theorem key_le {a b c d sc : Int} (hb : 0 < b) (hd : 0 < d) (hs : 0 < sc) (hbs : b ∣ sc) (hds : d ∣ sc) (h : a * sc.fdiv b ≤ c * sc.fdiv d) : a * d ≤ c * b := by
  obtain ⟨x, rfl⟩ := hbs
  rw [Int.fdiv_eq_ediv_of_nonneg _ (Int.le_of_lt hb), Int.fdiv_eq_ediv_of_nonneg _ (Int.le_of_lt hd), Int.mul_ediv_cancel_left _ (Int.ne_of_gt hb)] at h
  obtain ⟨y, hy⟩ := hds
  have hy2 : b * x / d = y := by rw [hy, Int.mul_ediv_cancel_left _ (Int.ne_of_gt hd)]
  rw [hy2] at h
  have h1 : a * x * (b * d) ≤ c * y * (b * d) := Int.mul_le_mul_of_nonneg_right h (Int.le_of_lt (Int.mul_pos hb hd))
  have e1 : a * x * (b * d) = a * d * (b * x) := by ac_rfl
  have e2 : c * y * (b * d) = c * b * (b * x) := by rw [hy]; ac_rfl
  rw [e1, e2] at h1
  exact Int.le_of_mul_le_mul_right h1 hs
theorem outQ_sorted {qs : List (Int × Int)} {p : Array Nat} {sc : Int} (h : PP qs.length p) (hs : SortT (keyOf sc qs) p qs.length) (h0 : 0 < sc) (hq : ∀ q ∈ qs, 0 < q.2 ∧ q.2 ∣ sc) :
    (outQ qs p).Pairwise (fun a b => a.1 * b.2 ≤ b.1 * a.2) := by
  have hlen : p.toList.length = qs.length := by rw [(pp_list h).length_eq, List.length_range]
  rw [List.pairwise_iff_getElem]
  intro i j hi hj hij
  have hi' : i < p.size := by simpa [outQ] using hi
  have hj' : j < p.size := by simpa [outQ] using hj
  have key := hs i j (Nat.le_of_lt hij) (by rw [← hlen]; simpa using hj')
  unfold kv keyOf at key
  have ei : p.getD i 0 = p[i] := by simp [Array.getD, hi']
  have ej : p.getD j 0 = p[j] := by simp [Array.getD, hj']
  rw [ei, ej] at key
  have hin : ∀ k, (hk : k < p.size) → qs.getD p[k] (0, 1) ∈ qs := by
    intro k hk
    have : p[k] < qs.length := by
      have := (pp_list h).mem_iff.mp (Array.getElem_mem_toList hk)
      simpa using this
    simp [this]
  have e1 : (outQ qs p)[i] = qs.getD p[i] (0, 1) := by simp [outQ]
  have e2 : (outQ qs p)[j] = qs.getD p[j] (0, 1) := by simp [outQ]
  rw [e1, e2]
  exact key_le (hq _ (hin i hi')).1 (hq _ (hin j hj')).1 h0 (hq _ (hin i hi')).2 (hq _ (hin j hj')).2 key
theorem outs_qs {news : Led} {us : List Value} {qs : List (Int × Int)} (hq : IsQs news us qs) : ∀ (l : List Nat), (∀ i ∈ l, i < qs.length) → IsQs news (l.map fun i => us.getD i Value.none) (l.map fun i => qs.getD i (0, 1))
  | [], _ => .nil
  | i :: l, h => by
    have hi := h i (.head _)
    refine .cons ?_ (outs_qs hq l fun j hj => h j (.tail _ hj))
    obtain ⟨v, hv, hd⟩ := DatAll.get hq (k := i) (by simpa using hi)
    have e : us.getD i Value.none = v := by rw [List.getD_eq_getElem?_getD, hv]; rfl
    have e2 : (qs.map rD)[i]'(by simpa using hi) = rD (qs.getD i (0, 1)) := by simp [hi]
    dsimp only
    rw [e, ← e2]; exact hd
/-- the ascending list: the pairs in the order of their size -/
def AscOut (us : List Value) (qs : List (Int × Int)) (_nw tl : Led) (r : Value) : Prop :=
  ∃ D c us' rs, r = .ref D ∧ (D, listOf (List.toArray us') c) ∈ tl ∧ (∀ led, IsQs led us qs → IsQs led us' rs) ∧ rs.Perm qs ∧ rs.Pairwise (fun a b => a.1 * b.2 ≤ b.1 * a.2)
theorem asc_out {qs : List (Int × Int)} {nw tl : Led} {us : List Value} {p : Array Nat} {sc : Int} {D : Addr} {c : Nat} (h : PP qs.length p) (hs : SortT (keyOf sc qs) p qs.length) (h0 : 0 < sc) (hd : ∀ q ∈ qs, 0 < q.2 ∧ q.2 ∣ sc) (hm : (D, listOf (outs us p).toArray c) ∈ tl) :
    AscOut us qs nw tl (.ref D) := by
  have h1 : ∀ led, IsQs led us qs → IsQs led (outs us p) (outQ qs p) := by
    intro led hq
    unfold outs outQ
    refine outs_qs hq p.toList fun i hi => ?_
    have := (pp_list h).mem_iff.mp hi
    simpa using this
  exact ⟨D, c, outs us p, outQ qs p, rfl, hm, h1, outQ_perm h, outQ_sorted h hs h0 hd⟩
theorem lt_of_all {d : Addr} {l : Led} (h : AllLt d l) : ∀ p ∈ l, p.1 < d := by
  induction l with
  | nil => intro p hp; exact nomatch hp
  | cons a l ih =>
    intro p hp
    rcases List.mem_cons.mp hp with rfl | hp
    · exact h.1
    · exact ih h.2 p hp



/-- the end of a def's body, of whatever ledger -/
def EndsR (g : Heap) (s : Shared) (R : Led → Value → Prop) (fl : Flow) (s' : Shared) : Prop :=
  ∃ r L' h' tk' m' all, fl = .ret r ∧ s' = { s with heap := h', toks := tk' } ∧ Fr g L' h' m' ∧ News g L' h' all ∧ R all r
theorem EndsR.intro {g : Heap} {s : Shared} {R : Led → Value → Prop} {r : Value} {L' : Addr} {h' : Heap} {tk' : Nat} {m' : Str → Option Value} {all : Led} (F : Fr g L' h' m') (N : News g L' h' all) (o : R all r) :
    EndsR g s R (.ret r) { s with heap := h', toks := tk' } := ⟨r, L', h', tk', m', all, rfl, rfl, F, N, o⟩
theorem enterX {dp un : Nat} {gd : Option (List Code)} {cn : Str} {cs : Scope} {a : Addr} {ccd : Value} {cl : List (Str × Addr)} {outer : List Env} {A₀ : Around} {base h₀ : Heap} {L : Addr} {m : Str → Option Value} {news : Led} {s : Shared}
    {Q E : Value → Shared → Prop} {name qual : Str} {params : Arguments} {body : List Stmt} {scope : Scope} {dV kV doc pm cdv ct oc : Value} {an od : Option Addr} {osl : Array (Option Value)} {f : Addr} {vs : List Value} {R : Led → Value → Prop} (binds : List (Str × Value))
    (B : Below A₀ base outer h₀) (F : Fr h₀ L s.heap m) (X₀ : (KK w.params).In h₀) (N : News h₀ L s.heap news) (T : Top p loose mean mg mb h₀) (hke : cs.kind = .function) (hroom : dp < recursionLimit)
    (ret : ∀ r all h' tk', Fr h₀ L h' m → News h₀ L h' all → R all r → Q r { s with heap := h', toks := tk' })
    (ho : (KK w.params).lookup f = some ⟨oc, od, .func (fnOf name qual params body scope dV kV doc pm an cdv ct), osl⟩) (hcd : codeIn (KK w.params) cdv qual = true)
    (hbind : bindArgs (fnOf name qual params body scope dV kV doc pm an cdv ct) ⟨vs, []⟩ = pure binds) (hkind : (binds.all fun y => scope.names.lookup y.1 == some .local || scope.names.lookup y.1 == some .cell) = true)
    (hnd : ((cellsFrom 0 scope.names []).map (·.1)).Nodup)
    (hco : scope.isCoroutine = false) (hgen : scope.isGenerator = false) (hk : scope.kind = .function)
    (h : ∀ g L' h₁ tk cells, Fr g L' h₁ (bindL (envX qual scope L' f cdv (cellsFrom (L' + 1) scope.names [])).kindOf binds fun _ => none) → News g L' h₁ (cells ++ news) →
      CellsAre (bindC (envX qual scope L' f cdv (cellsFrom (L' + 1) scope.names [])).kindOf binds fun _ => none) (cellsFrom (L' + 1) scope.names []) cells →
      Below (ktrTop dp un gd cn cs L a ccd cl outer) base (envX cn cs L a ccd cl :: outer) g → (KK w.params).In g → Top p loose mean mg mb g → (∀ p ∈ news, p.1 < L') →
      (∀ c P, CodeHd h₀ c P → CodeHd g c P) →
      wpAny (model LP w) (ktrTop (dp + 1) (un + 3) gd qual scope L' f cdv (cellsFrom (L' + 1) scope.names []) (envX cn cs L a ccd cl :: outer)) (execs body (envX qual scope L' f cdv (cellsFrom (L' + 1) scope.names [])))
        (EndsR g s R) (fun _ _ => False) { s with heap := h₁, toks := tk }) :
    wpAny (model LP w) (ktrTop dp un gd cn cs L a ccd cl outer) (call (.ref f) vs) Q E s := by
  refine wpAny_call (code_defC (env := envX cn cs L a ccd cl) B F X₀ N T rfl rfl hke ho hcd hroom (BindsTo.of_eq hbind) hkind hnd (fun g L' h₁ tk cells FG F' N' Y' B' X' T' l1 => ?_) hco hgen hk)
  refine wpAny_mono (h g L' h₁ tk cells F' N' Y' B' X' T' l1 (fun c P hc => hc.keeps FG.keep)) (fun fl s' hq => ?_) fun _ _ x => x.elim
  obtain ⟨r, L'', h', tk', m', all, rfl, rfl, F2, N2, o⟩ := hq
  exact ⟨L'', m', all, F2, N2, fun F3 N3 => ret r all h' tk' F3 N3 o⟩
theorem asc_code {h : Heap} (X : (KK w.params).In h) : CodeHd h 200 196 := by
  have hT : Touch PySem.Challenge.rw_ov0057_01 KK := by (k_fill; trivial)
  have e := X 200 _ (by k_is)
  refine ⟨_, _, _, _, _, _, _, _, _, e, rfl, rfl, rfl, rfl, rfl, rfl, rfl, rfl, by decide⟩
/-- the table of the inner def's code, once it is filled -/
def Hit (pos : Pos) (qual : Str) (ps : Array Value) (led : Led) : Prop :=
  TriplesOk ps.toList ∧ ∃ c' oc vs t, codeAmong pos ps.toList = some (.ref c') ∧ (c', oc) ∈ led ∧ oc.data = .fields vs ∧ vs[1]? = some (.str qual t)
theorem Hit.mono {pos : Pos} {qual : Str} {ps : Array Value} {led led' : Led} (h : Hit pos qual ps led) (s : ∀ p ∈ led, p ∈ led') : Hit pos qual ps led' := by
  obtain ⟨a, c', oc, vs, t, b, c, d⟩ := h
  exact ⟨a, c', oc, vs, t, b, s _ c, d⟩
def ascPos : Pos := ⟨108, 4, 111, 48⟩
abbrev HitA (ps : Array Value) (led : Led) : Prop := Hit ascPos (Str.ofString "ascending.<locals>.place") ps led
def ConT (w : World) (p : Program) (loose : List Str) (mean : ExcName → Option Value) (mg mb : Str → Option Value) (f : Addr) (dd du : Nat) (Rel : Led → List Value → Prop) (Out : Led → Led → Value → Prop) : Prop :=
  ∀ (dp un : Nat) (gd : Option (List Code)) (cn : Str) (cs : Scope) (a : Addr) (ccd : Value) (cl : List (Str × Addr)) (outer : List Env) (A₀ : Around) (base h₀ : Heap) (L : Addr) (m : Str → Option Value) (ps : Array Value) (rest : Led) (s : Shared) (vs : List Value)
    (Q E : Value → Shared → Prop),
    Below A₀ base outer h₀ → Fr h₀ L s.heap m → (KK w.params).In h₀ → News h₀ L s.heap ((196, tabObj ps) :: rest) → Top p loose mean mg mb h₀ → cs.kind = .function → Rel rest vs → (∀ q ∈ rest, q.1 ≠ 196) → (ps = #[] ∨ HitA ps rest) → dp + dd < recursionLimit → un + du < cLine →
    (∀ r tl ps' h' tk', Fr h₀ L h' m → News h₀ L h' (tl ++ (196, tabObj ps') :: rest) → OwnOff tl (196 :: rest.map (·.1)) → HitA ps' (tl ++ rest) → (HitA ps rest → ps' = ps) → Out rest tl r → Q r { s with heap := h', toks := tk' }) →
    wpAny (model LP w) (ktrTop dp un gd cn cs L a ccd cl outer) (call (.ref f) vs) Q E s
def EndT (ps : Array Value) (rest : Led) (Out : Led → Led → Value → Prop) (all : Led) (r : Value) : Prop :=
  ∃ tl ps', (∀ p ∈ tl ++ (196, tabObj ps') :: rest, p ∈ all) ∧ OwnOff tl (196 :: rest.map (·.1)) ∧ HitA ps' (tl ++ rest) ∧ (HitA ps rest → ps' = ps) ∧ Out rest tl r
theorem endT_ret {h₀ : Heap} {L : Addr} {m : Str → Option Value} {ps : Array Value} {rest : Led} {s : Shared} {Q : Value → Shared → Prop} {Out : Led → Led → Value → Prop}
    (hret : ∀ r tl ps' h' tk', Fr h₀ L h' m → News h₀ L h' (tl ++ (196, tabObj ps') :: rest) → OwnOff tl (196 :: rest.map (·.1)) → HitA ps' (tl ++ rest) → (HitA ps rest → ps' = ps) → Out rest tl r → Q r { s with heap := h', toks := tk' }) :
    ∀ r all h' tk', Fr h₀ L h' m → News h₀ L h' all → EndT ps rest Out all r → Q r { s with heap := h', toks := tk' } := by
  intro r all h' tk' F N ⟨tl, ps', s1, off, hh, he, o⟩
  exact hret r tl ps' h' tk' F (fun p hp => N p (s1 p hp)) off hh he o



local macro_rules | `(tactic| k_all) => `(tactic| (with_reducible assumption))
local macro_rules | `(tactic| k_updF) => `(tactic| k_dflt (exact UpdF.head (by assumption)))
local macro_rules | `(tactic| k_mem) => `(tactic| with_reducible (first | assumption | (refine List.Mem.tail _ ?_; assumption) | (refine List.Mem.tail _ (List.Mem.tail _ ?_); assumption)))
def ScaleIs (sc : Int) : Prop := sc = 1 ∨ sc = 2 ∨ sc = 3 ∨ sc = 6
theorem endT_of {X tl9 tl rest : Led} {ps ps' : Array Value} {Out : Led → Led → Value → Prop} {r : Value} (off9 : OwnOff tl9 ((X ++ (196, tabObj ps') :: (rest ++ tl)).map (·.1))) (hX : OwnOff X (196 :: rest.map (·.1))) (htl : OwnOff tl (196 :: rest.map (·.1)))
    (hh : HitA ps' (X ++ rest)) (he : HitA ps rest → ps' = ps) (o : ∀ t, (∀ p ∈ tl9, p ∈ t) → Out rest t r) : EndT ps rest Out (tl9 ++ (X ++ (196, tabObj ps') :: (rest ++ tl))) r := by
  refine ⟨tl9 ++ (X ++ tl), ps', ?_, ?_, hh.mono ?_, he, o _ ?_⟩
  · intro p hp; simp only [List.mem_append, List.mem_cons] at hp ⊢; grind
  · refine off_app (fun p hp b hb => off9 p hp b ?_) (off_app hX htl)
    rcases List.mem_cons.mp hb with rfl | hb
    · simp
    · simp only [List.map_append, List.map_cons, List.mem_append, List.mem_cons]; exact .inr (.inr (.inl hb))
  · intro p hp; simp only [List.mem_append] at hp ⊢; grind
  · intro p hp; simp only [List.mem_append]; exact .inl hp
theorem scale_lt {sc : Int} (h : ScaleIs sc) : 0 < sc ∧ sc ≤ 6 := by unfold ScaleIs at h; omega
theorem scale_fd {sc d : Int} (h : ScaleIs sc) (hd : 0 < d) : 0 ≤ sc.fdiv d ∧ sc.fdiv d ≤ 6 := by
  have h2 := scale_lt h
  rw [Int.fdiv_eq_ediv_of_nonneg _ (Int.le_of_lt hd)]
  refine ⟨Int.ediv_nonneg (by omega) (by omega), Int.le_trans (Int.ediv_le_self _ (by omega)) h2.2⟩
theorem scale_next {sc d : Int} (h : ScaleIs sc) (hd : d = 1 ∨ d = 2 ∨ d = 3) (k : sc.fmod d ≠ 0) : ScaleIs (sc * d) ∧ d ∣ sc * d ∧ sc ∣ sc * d := by
  refine ⟨?_, Int.dvd_mul_left .., Int.dvd_mul_right ..⟩
  unfold ScaleIs at h ⊢
  rcases h with rfl | rfl | rfl | rfl <;> rcases hd with rfl | rfl | rfl <;> simp_all (config := { decide := true })
theorem scale_same {sc d : Int} (h : ScaleIs sc) (hd : d = 1 ∨ d = 2 ∨ d = 3) (k : ¬ sc.fmod d ≠ 0) : d ∣ sc := by
  unfold ScaleIs at h
  rcases h with rfl | rfl | rfl | rfl <;> rcases hd with rfl | rfl | rfl <;> first | decide | exact absurd (by decide) k
theorem end_cell {σ τ : Type} {C : Addr} {cst : Led} {obj : σ → Obj} {Facts : Led → σ → Prop} {x : Str} {stored : List Str} {m₀ : Str → Option Value} {P : τ → σ → Prop} {pre : τ} {h₀ : Heap} (c : σ) {tl : Led} {L : Addr} {m' : Str → Option Value} {own : Led} {s₁ : Shared} {h' : Heap} {tk : Nat}
    (h0 : KdSep own tl (C :: cst.map (·.1))) (F : Fr h₀ L h' m') (N : News h₀ L h' ((C, obj c) :: (cst ++ (tl ++ own))))
    (hr : ∀ z, z ≠ x → stored.contains z = false → m' z = m₀ z) (hf : Facts (cst ++ tl) c) (hp : P pre c) :
    InvEndG h₀ L (KdS (fun c => [(C, obj c)]) cst (fun _ => []) Facts x stored m₀ P (C :: cst.map (·.1)) pre) own s₁ { s₁ with heap := h', toks := tk } :=
  kd_end (Led := fun c => [(C, obj c)]) c [] h0 F N (by intro p hp; simp only [List.mem_append, List.mem_cons, List.not_mem_nil, or_false, false_or] at hp ⊢; grind) (by intro p hp; simp only [List.mem_append, List.mem_cons] at hp ⊢; grind) rfl (fun _ h => nomatch h) (fun _ h => nomatch h) (fun _ h => nomatch h) (fun z h1 _ h3 => hr z h1 h3) hf hp
set_option maxHeartbeats 8000000 in
theorem ascending_con (us : List Value) (qs : List (Int × Int)) : ConT w p loose mean mg mb 201 12 400 (fun nw vs => ∃ l n, vs = [.ref l] ∧ (l, listOf us.toArray n) ∈ nw ∧ IsQs nw us qs ∧ (∀ q ∈ qs, q.2 = 1 ∨ q.2 = 2 ∨ q.2 = 3) ∧ 0 < qs.length ∧ qs.length < 64) (AscOut us qs) := by
  unfold ConT
  intro dp un gd cn cs a ccd cl outer A₀ base h₀ L m ps rest s vs Q E B F X N T hk hR hne hts hd hu hret
  obtain ⟨l, n, rfl, hm, hq, hs, h1, h64⟩ := hR
  have hT : Touch PySem.Challenge.rw_ov0057_01 KK := by (k_fill; trivial)
  clear hT
  k_with_none
  k_with "pyIter ref" => (
    (rename Fr _ _ _ _ => lF'); (rename News _ _ _ _ => lN'); (rename _ = Data.cell (some (Value.int 1 _)) => hD1)
    refine' kd_listL (σ := Obj × Int × Tok) (fun c => [(L' + 1, c.1)]) ((196, tabObj ps) :: rest) (fun c => []) (fun nw c => c.1.data = Data.cell (some (.int c.2.1 c.2.2))) [] (fun pre c => ScaleIs c.2.1 ∧ ∀ q ∈ qs.take pre.length, q.2 ∣ c.2.1) ((L' + 1) :: ((196, tabObj ps) :: rest : Led).map (·.1)) (_, 1, _) rfl (List.mem_cons_of_mem _ hm) (by rw [List.append_nil]; exact DatAll.mono (fun p hp => List.mem_cons_of_mem _ hp) hq) lF' lN' (fun p hp => by simpa using hp) (fun _ => rfl) hD1 (fun _ h => nomatch h) ⟨Or.inl rfl, fun _ h => nomatch h⟩
      (fun c tl pre d post v u h tk own hE hD hV hS hO hF hP F1 N1 => ?_) (fun c tl u h tk hO hF hP F1 N1 => ?_)
    all_goals (clear lF' lN'; obtain ⟨o0, sc0, t0⟩ := c; obtain ⟨hP, hPb⟩ := hP; dsimp only [List.nil_append] at F1 N1 hF hP hPb)
    all_goals first
      | (obtain ⟨q, hq1, rfl, -⟩ := pre_at hE
         obtain ⟨va, t, u1, k, rfl, hm2⟩ := (isQ_of hV).out
         have hs3 := hs q (List.mem_of_getElem? hq1)
         replace hm2 := led_own (c := own) _ hm2
         have hA2 : ∀ p ∈ ((196, tabObj ps) :: rest : Led) ++ (tl ++ own), p.1 ≠ L' + 1 := by
           intro p hp
           rcases List.mem_append.mp hp with hp | hp
           · exact hA p hp
           · exact fun e => hO p hp _ (.head _) e
         have htk : qs.take (pre ++ [rD q]).length = qs.take pre.length ++ [q] := by rw [List.length_append, List.length_singleton, take_at hq1]
         clear hE hD hV)
      | (rw [List.length_map, List.take_length] at hPb)
    all_goals (try k_fold))
  k_dflt (refine' enterX (R := EndT ps rest (AscOut us qs)) [(Str.ofString "items", .ref l)] B F X N T hk ?k8 ?kR ?k6 ?k7 ?k9 ?kB ?kD ?c2 ?c3 ?c4 ?_; (case k8 => omega); (case kR => exact endT_ret hret); (case k6 => k_is); (case k7 => k_is); (case k9 => exact rfl); (case kB => exact rfl); (case kD => decide +kernel); (case c2 => exact rfl); (case c3 => exact rfl); (case c4 => exact rfl))
  have codeHd := asc_code X
  clear B F X N T hret Q E hk A₀ m
  intro g L' h' tk' cells' F' N' Y' B' X' T' l1 hcode
  replace codeHd := hcode _ _ codeHd
  clear hcode
  k_cells Y'
  (try simp only [List.cons_append, List.nil_append] at N'); (try dsimp only at F' N'); (try k_fold)
  have hA : ∀ p ∈ ((196, tabObj ps) :: rest : Led), p.1 ≠ L' + 1 := fun p hp => Nat.ne_of_lt (Nat.lt_succ_of_lt (l1 p hp))
  k_steps
  · exact end_cell (_, _, _) hS (by assumption) (by assumption) (by intro z h1 h2; simp only [h1, if_false, kstB, List.contains_nil, Bool.false_eq_true]) (by assumption) (by
      have hn := scale_next hP hs3 (by assumption)
      refine ⟨hn.1, fun y hy => ?_⟩
      rw [htk] at hy
      rcases List.mem_append.mp hy with hy | hy
      · exact Int.dvd_trans (hPb y hy) hn.2.2
      · rw [List.mem_singleton.mp hy]; exact hn.2.1)
  · exact end_cell (_, sc0, _) hS (by assumption) (by assumption) (by intro z h1 h2; simp only [h1, if_false, kstB, List.contains_nil, Bool.false_eq_true]) (by assumption) (by
      have hn := scale_same hP hs3 (fun hne => absurd (by assumption) hne)
      refine ⟨hP, fun y hy => ?_⟩
      rw [htk] at hy
      rcases List.mem_append.mp hy with hy | hy
      · exact hPb y hy
      · rw [List.mem_singleton.mp hy]; exact hn)
  have h196 : 196 < L' := l1 (196, tabObj ps) (.head _)
  have hB2 : ∀ p ∈ rest ++ tl, p.1 ≠ 196 := by
    intro p hp
    rcases List.mem_append.mp hp with hp | hp
    · exact hne p hp
    · exact hO p hp _ (.tail _ (.head _))
  have N3 : News g L' h ((L' + 1, o0) :: (196, tabObj ps) :: (rest ++ tl)) := N1
  clear N1
  rcases hts with rfl | hit
  · k_dflt (refine nestDef_K rfl rfl rfl ?_)
    k_dflt (refine nest_K (by assumption) N3 T' codeHd rfl (UpdF.tail (Nat.ne_of_gt (Nat.lt_succ_of_lt h196)) (UpdF.head hB2)) trivial rfl rfl ?_)
    intro f' c' oc' vs' t' ct' dc' h2 tk2 F2 N2 d1 d2 l2 l3
    dsimp only at N2
    k_steps
    (rename Fr _ _ _ _ => lF'); (rename News _ _ _ _ => lN')
    k_dflt (refine sorted_q (sc := sc0) lF' lN' (.tail _ (.tail _ (.tail _ (.tail _ (List.mem_append.mpr (.inl hm)))))) (DatAll.mono (fun p hp => .tail _ (.tail _ (.tail _ (.tail _ (List.mem_append.mpr (.inl hp)))))) hq) (fun q hq => by have := hs q hq; omega) h1 h64 ?P ?R)
    case P =>
      unfold PlaceTells
      intro s9 all9 v9 n9 d9 Q9 F9 N9 sub9 hq9 hd9 ret9
      obtain ⟨va, vt, vu, vk, rfl, hvm⟩ := hq9.out
      obtain ⟨hd9, hd10⟩ := hd9
      have hsc := scale_lt hP
      have hfd := scale_fd hP hd9
      k_dflt (refine wpAny_call (code_nest (A := (ktrTop (dp + 1 + 1 - 1) (un + 3 + 1 + 1) gd _ _ L' _ _ _ _)) B' F9 X' N9 T' rfl rfl rfl (sub9 _ (.head _)) (codeRec_news N9 (sub9 _ (.tail _ (.head _))) d1 d2) (by show dp + 1 < recursionLimit; omega) (BindsTo.of_eq rfl) (locs rfl) (fun g2 L2 h3 FG F3 N3 B3 X3 T3 => ?_) rfl rfl rfl (by decide)))
      replace N3 : News g2 L2 h3 ((L' + 1, o0) :: (va, ({ cls := .type "tuple", data := .seq #[.int n9 vt, .int d9 vu] vk } : Obj)) :: all9) := by
        intro p hp
        rcases List.mem_cons.mp hp with rfl | hp
        · exact N3 _ (sub9 _ (.tail _ (.tail _ (.head _))))
        · rcases List.mem_cons.mp hp with rfl | hp
          · exact N3 _ (sub9 _ hvm)
          · exact N3 _ hp
      clear lN' lF' FG F9 N9
      k_steps
      all_goals (try (exfalso; omega))
      have lt9 := lt_of_all (And.right (And.right ‹_ ∧ _ ∧ AllLt _ all9›))
      exact ret9 _ _ _ _ _ _ (by assumption) (fun p hp => ‹News g L' _ ((_, _) :: (L' + 1, o0) :: (va, _) :: all9)› p (by
        rcases List.mem_cons.mp hp with rfl | hp
        · exact .head _
        · exact .tail _ (.tail _ (.tail _ hp)))) lt9
    case R =>
      intro pp D c9 tl9 h9 tk9 hpp hsrt F9 N9 off9 hmD
      clear lN' lF'
      k_steps
      have hX1 : OwnOff [(c', oc'), (L' + 1, o0)] (196 :: rest.map (·.1)) := by
        intro p hp b hb
        obtain ⟨q, hq1, rfl⟩ : ∃ q ∈ ((196, tabObj #[]) :: rest : Led), q.1 = b := by
          rcases List.mem_cons.mp hb with rfl | hb
          · exact ⟨_, .head _, rfl⟩
          · obtain ⟨q, hq1, rfl⟩ := List.mem_map.mp hb; exact ⟨q, .tail _ hq1, rfl⟩
        have hq2 : q ∈ ((L' + 1, o0) :: (196, tabObj #[]) :: (rest ++ tl) : Led) := by
          rcases List.mem_cons.mp hq1 with rfl | hq1
          · exact .tail _ (.head _)
          · exact .tail _ (.tail _ (List.mem_append.mpr (.inl hq1)))
        rcases List.mem_cons.mp hp with rfl | hp
        · exact Nat.ne_of_gt (l2 q hq2)
        · rw [List.mem_singleton.mp hp]; exact fun e => hA q hq1 e.symm
      have hX2 : ∀ b ∈ (196 :: rest.map (·.1) : List Addr), f' ≠ b := by
        intro b hb
        rcases List.mem_cons.mp hb with rfl | hb
        · exact Nat.ne_of_gt (Nat.lt_trans (l2 (196, _) (.tail _ (.head _))) l3)
        · obtain ⟨q, hq1, rfl⟩ := List.mem_map.mp hb
          exact Nat.ne_of_gt (Nat.lt_trans (l2 q (.tail _ (.tail _ (List.mem_append.mpr (.inl hq1))))) l3)
      refine EndsR.intro F9 N9 (endT_of (X := [(f', _), (c', oc'), (L' + 1, o0)]) off9 ?_ (fun p hp b hb => hO p hp b (.tail _ hb)) ?_ ?_ (fun t sub => asc_out hpp hsrt (scale_lt hP).1 (fun q hq' => ⟨by have := hs q hq'; omega, hPb q hq'⟩) (sub _ hmD)))
      · intro p hp b hb
        rcases List.mem_cons.mp hp with rfl | hp
        · exact hX2 b hb
        · exact hX1 p hp b hb
      · exact ⟨by simp [TriplesOk, rawInt], c', oc', vs', t', by simp [codeAmong, rawInt, ascPos], .tail _ (.head _), d1, d2⟩
      · rintro ⟨_, _, _, _, _, h9, _⟩
        exact absurd h9 (by simp [codeAmong])
  · have hit' := hit
    obtain ⟨ht1, c', oc', vs', t', hc1, hc2, d1, d2⟩ := hit
    k_dflt (refine nestDef_K rfl rfl rfl ?_)
    k_dflt (refine nestHit_K (by assumption) N3 T' codeHd rfl (List.Mem.tail _ (List.Mem.head _)) ht1 hc1 rfl ?_)
    intro f' ct' dc' h2 tk2 F2 N2 l2
    k_steps
    (rename Fr _ _ _ _ => lF'); (rename News _ _ _ _ => lN')
    k_dflt (refine sorted_q (sc := sc0) lF' lN' (.tail _ (.tail _ (.tail _ (List.mem_append.mpr (.inl hm))))) (DatAll.mono (fun p hp => .tail _ (.tail _ (.tail _ (List.mem_append.mpr (.inl hp))))) hq) (fun q hq => by have := hs q hq; omega) h1 h64 ?P ?R)
    case P =>
      unfold PlaceTells
      intro s9 all9 v9 n9 d9 Q9 F9 N9 sub9 hq9 hd9 ret9
      obtain ⟨va, vt, vu, vk, rfl, hvm⟩ := hq9.out
      obtain ⟨hd9, hd10⟩ := hd9
      have hsc := scale_lt hP
      have hfd := scale_fd hP hd9
      k_dflt (refine wpAny_call (code_nest (A := (ktrTop (dp + 1 + 1 - 1) (un + 3 + 1 + 1) gd _ _ L' _ _ _ _)) B' F9 X' N9 T' rfl rfl rfl (sub9 _ (.head _)) (codeRec_news N9 (sub9 _ (.tail _ (.tail _ (.tail _ (List.mem_append.mpr (.inl hc2)))))) d1 d2) (by show dp + 1 < recursionLimit; omega) (BindsTo.of_eq rfl) (locs rfl) (fun g2 L2 h3 FG F3 N3 B3 X3 T3 => ?_) rfl rfl rfl (by decide)))
      replace N3 : News g2 L2 h3 ((L' + 1, o0) :: (va, ({ cls := .type "tuple", data := .seq #[.int n9 vt, .int d9 vu] vk } : Obj)) :: all9) := by
        intro p hp
        rcases List.mem_cons.mp hp with rfl | hp
        · exact N3 _ (sub9 _ (.tail _ (.head _)))
        · rcases List.mem_cons.mp hp with rfl | hp
          · exact N3 _ (sub9 _ hvm)
          · exact N3 _ hp
      clear lN' lF' FG F9 N9
      k_steps
      all_goals (try (exfalso; omega))
      have lt9 := lt_of_all (And.right (And.right ‹_ ∧ _ ∧ AllLt _ all9›))
      exact ret9 _ _ _ _ _ _ (by assumption) (fun p hp => ‹News g L' _ ((_, _) :: (L' + 1, o0) :: (va, _) :: all9)› p (by
        rcases List.mem_cons.mp hp with rfl | hp
        · exact .head _
        · exact .tail _ (.tail _ (.tail _ hp)))) lt9
    case R =>
      intro pp D c9 tl9 h9 tk9 hpp hsrt F9 N9 off9 hmD
      clear lN' lF'
      k_steps
      have hX1 : ∀ q ∈ ((196, tabObj ps) :: rest : Led), f' ≠ q.1 := by
        intro q hq1
        refine Nat.ne_of_gt (l2 q ?_)
        rcases List.mem_cons.mp hq1 with rfl | hq1
        · exact .tail _ (.head _)
        · exact .tail _ (.tail _ (List.mem_append.mpr (.inl hq1)))
      refine EndsR.intro F9 N9 (endT_of (X := [(f', _), (L' + 1, o0)]) off9 ?_ (fun p hp b hb => hO p hp b (.tail _ hb)) (hit'.mono fun p hp => List.mem_append.mpr (.inr hp)) (fun _ => rfl) (fun t sub => asc_out hpp hsrt (scale_lt hP).1 (fun q hq' => ⟨by have := hs q hq'; omega, hPb q hq'⟩) (sub _ hmD)))
      intro p hp b hb
      obtain ⟨q, hq1, rfl⟩ : ∃ q ∈ ((196, tabObj ps) :: rest : Led), q.1 = b := by
        rcases List.mem_cons.mp hb with rfl | hb
        · exact ⟨_, .head _, rfl⟩
        · obtain ⟨q, hq1, rfl⟩ := List.mem_map.mp hb; exact ⟨q, .tail _ hq1, rfl⟩
      rcases List.mem_cons.mp hp with rfl | hp
      · exact hX1 q hq1
      · rw [List.mem_singleton.mp hp]; exact fun e => hA q hq1 e.symm
local macro_rules | `(tactic| k_mem) => `(tactic| first | (with_reducible assumption) | (refine List.mem_cons_of_mem _ ?_; with_reducible assumption) | (refine List.mem_cons_of_mem _ (List.mem_cons_of_mem _ ?_); with_reducible assumption) | (refine List.mem_cons_of_mem _ (List.mem_cons_of_mem _ (List.mem_cons_of_mem _ ?_)); with_reducible assumption))
local macro_rules | `(tactic| k_room) => `(tactic| ((try simp only [depth_under_make, depth_under_kw, depth_in1, depth_deeper, depth_caller]); (try dsimp only [ktrTop]); omega))


section
variable {A : Around} {E : Value → Shared → Prop} {s : Shared} {h₀ : Heap} {L l : Addr} {m : Str → Option Value} {news : Led} {us : List Value} {n : Nat}
theorem list_q {Q : Value → Shared → Prop} (F : Fr h₀ L s.heap m) (N : News h₀ L s.heap news) (hm : (l, listOf us.toArray n) ∈ news) (h1 : (us.length : Int) < 2 ^ 14)
    (h : ∀ D c h', Fr h₀ L h' m → News h₀ L h' ((D, listOf us.toArray c) :: news) → (∀ q ∈ news, q.1 < D) → Q (.ref D) { s with heap := h' }) : wpAny (model LP w) A (call (.type "list") [.ref l]) Q E s :=
  kup_listOf F N hm (by simp) h (by rw [sizeLine_eq]; simp; omega)
end
/-- a Vector's own names -/
abbrev vecD (w : World) (t0 t1 t2 t3 t4 t5 : Tok) (l : Addr) (n : Nat) : Obj :=
  dictOf [{ hash := PyData.keyHash w.params (Str.ofString "kind"), key := Value.str (Str.ofString "kind") t0, val := Value.str (Str.ofString "double") t1 },
    { hash := PyData.keyHash w.params (Str.ofString "items"), key := Value.str (Str.ofString "items") t2, val := Value.ref l },
    { hash := PyData.keyHash w.params (Str.ofString "attrs"), key := Value.str (Str.ofString "attrs") t3, val := Value.none },
    { hash := PyData.keyHash w.params (Str.ofString "shared"), key := Value.str (Str.ofString "shared") t4, val := Value.bool false },
    { hash := PyData.keyHash w.params (Str.ofString "loose"), key := Value.str (Str.ofString "loose") t5, val := Value.bool false }] n
/-- a Vector of doubles whose items are the list at l -/
inductive VecAt (w : World) (news : Led) (l : Addr) : Value → Prop where
  | mk {x d : Addr} {t0 t1 t2 t3 t4 t5 : Tok} {n : Nat} : (x, instObj 171 d) ∈ news → (d, vecD w t0 t1 t2 t3 t4 t5 l n) ∈ news → VecAt w news l (.ref x)
theorem VecAt.out {news : Led} {l : Addr} {v : Value} (h : VecAt w news l v) : ∃ x d t0 t1 t2 t3 t4 t5 n, v = .ref x ∧ (x, instObj 171 d) ∈ news ∧ (d, vecD w t0 t1 t2 t3 t4 t5 l n) ∈ news := by
  cases h with
  | mk a b => exact ⟨_, _, _, _, _, _, _, _, _, rfl, a, b⟩
set_option maxHeartbeats 4000000 in
theorem number_items_con (l : Addr) : Con w p loose mean mg mb 187 3 100 (fun nw vs => ∃ v, vs = [v] ∧ VecAt w nw l v) (fun _ _ r => r = .ref l) := by
  unfold Con
  intro dp un gd cn cs a ccd cl outer A₀ base h₀ L m news s vs Q E B F X N T hk hR hd hu hret
  obtain ⟨v, rfl, hv⟩ := hR
  have hT : Touch PySem.Challenge.rw_ov0057_01 KK := by (k_fill; trivial)
  clear hT
  k_with_none
  obtain ⟨x, d, t0, t1, t2, t3, t4, t5, n, rfl, hx, hd'⟩ := hv.out
  k_dflt (refine' enterC [(Str.ofString "v", .ref x)] B F X N T hk ?k8 hret ?k6 ?k7 ?k9 ?kB ?c2 ?c3 ?c4 ?c5 ?_; (case k8 => omega); (case k6 => k_is); (case k7 => k_is); (case k9 => exact rfl); (case kB => exact rfl); (case c2 => exact rfl); (case c3 => exact rfl); (case c4 => exact rfl); (case c5 => decide))
  clear B F X N T hret Q E hk A₀ m
  intro g L' h' tk' F' N' B' X' T'
  (try dsimp only [List.reverse, List.reverseAux] at F'); (try k_fold)
  k_steps
  dsimp only; k_unfold
  exact Ends.intro0 (by assumption) (by assumption) (fun _ h => h) rfl
local macro_rules | `(tactic| walk_at "call type:list") => `(tactic| (k_dflt (refine' list_q ?F ?N ?b ?z ?_; (case F => k_asm); (case N => k_asm); (case b => k_mem); (case z => omega); k_whole); intro D' c' h' F' N' l1; (try k_lt l1)))
local macro_rules | `(tactic| walk_at "call ref") => `(tactic| (k_dflt (refine' Con.useV (number_items_con _) ?B ?F ?X ?N ?T ?K ?R ?d ?u ?_; (case B => k_asm); (case F => k_asm); (case X => k_asm); (case N => k_asm); (case T => k_asm); (case K => exact rfl); (case R => (refine' ⟨_, rfl, VecAt.mk ?m1 ?m2⟩; (case m1 => k_mem); (case m2 => k_mem))); (case d => omega); (case u => omega)); k_whole; intro r' h' tk' F' N' out'; (try dsimp only at out'); (try subst e'); (try subst out'); (try k_sweep); (try dsimp only)))


/-- the end of a comprehension's turn -/
def TurnEnd (h₀ : Heap) (L : Addr) (m : Str → Option Value) (s₁ : Shared) (hd base : Led) (g : Int × Int) (y : Value) (s₂ : Shared) : Prop :=
  ∃ h' tk' tl, s₂ = { s₁ with heap := h', toks := tk' } ∧ Fr h₀ L h' m ∧ News h₀ L h' (tl ++ (hd ++ base)) ∧ OwnOff tl ((hd ++ base).map (·.1)) ∧ IsQ (tl ++ base) y g.1 g.2
theorem TurnEnd.intro {h₀ : Heap} {L : Addr} {m : Str → Option Value} {s₁ : Shared} {hd base : Led} {g : Int × Int} {y : Value} {h' : Heap} {tk' : Nat} (tl : Led) (F : Fr h₀ L h' m) (N : News h₀ L h' (tl ++ (hd ++ base))) (off : OwnOff tl ((hd ++ base).map (·.1))) (q : IsQ (tl ++ base) y g.1 g.2) :
    TurnEnd h₀ L m s₁ hd base g y { s₁ with heap := h', toks := tk' } := ⟨h', tk', tl, rfl, F, N, off, q⟩
section
variable {prog : Program} {A : Around} {h₀ : Heap} {L : Addr} {m : Str → Option Value} {env : Env} {elt : PySem.Expr} {x : Str} {scope : Scope} {cl : List (Str × Addr)} {s : Shared} {S : Led → Prop} {P : Nat → Value → Prop} {Fin : List Value → Led → Prop}
theorem comp_q {n : Nat} (gs : List (Int × Int)) (base : Led) (hlen : gs.length = n) (hS : ∀ tl, S (tl ++ base))
    (turn : ∀ i v g tl I oI C oC D m₂ ys h tk (E' : Value → Shared → Prop), gs[i]? = some g → P i v → LCg.NsObj oC m₂ → m₂ x = some v → Fr h₀ L h m → News h₀ L h ((I, oI) :: (C, oC) :: (D, LCg.lst ys) :: (tl ++ base)) → LCg.Off3 I C D (tl ++ base) → ((@Ne Nat I C) ∧ (@Ne Nat I D) ∧ (@Ne Nat C D)) → OwnOff tl (base.map (·.1)) →
      wpAny (model prog w) A (eval elt (compEnvC scope cl C env)) (TurnEnd h₀ L m { s with heap := h, toks := tk } [(I, oI), (C, oC), (D, LCg.lst ys)] (tl ++ base) g) E' { s with heap := h, toks := tk })
    (fin : ∀ ys tl, OwnOff tl (base.map (·.1)) → IsQs (tl ++ base) ys gs → Fin ys (tl ++ base)) :
    LCg.CompRest prog w A h₀ L m env elt x scope cl s S P Fin n 0 [] base := by
  have key : ∀ (j i : Nat) (ys : List Value) (tl : Led), i + j = n → OwnOff tl (base.map (·.1)) → IsQs (tl ++ base) ys (gs.take i) → LCg.CompRest prog w A h₀ L m env elt x scope cl s S P Fin j i ys (tl ++ base) := by
    intro j
    induction j with
    | zero =>
      intro i ys tl hi ht hy
      have e : i = gs.length := by omega
      subst e
      rw [List.take_length] at hy
      exact LCg.CompRest.zero (fin ys tl ht hy)
    | succ j ih =>
      intro i ys tl hi ht hy
      refine LCg.CompRest.succ ?_
      intro v I oI C oC D m₂ h tk E' hv hC hx F N off ne
      obtain ⟨g, hg⟩ : ∃ g, gs[i]? = some g := ⟨_, List.getElem?_eq_getElem (by omega)⟩
      refine wpAny_mono (turn i v g tl I oI C oC D m₂ ys h tk E' hg hv hC hx F N off ne ht) (fun y s₂ hq => ?_) fun _ _ e => e
      obtain ⟨h', tk', tl2, e, F', N', off', hq⟩ := hq
      have o3 := off.mem
      have hin : ∀ p ∈ tl2, ∀ q ∈ ([(I, oI), (C, oC), (D, LCg.lst ys)] ++ (tl ++ base) : Led), p.1 ≠ q.1 := fun p hp q hq' => off' p hp q.1 (List.mem_map.mpr ⟨q, hq', rfl⟩)
      refine ⟨h', tk', tl2 ++ (tl ++ base), e, F', fun p hp => N' p ?_, LCg.Off3.of fun p hp => ?_, ?_, ?_⟩
      · simp only [List.mem_cons, List.mem_append, List.not_mem_nil, or_false] at hp ⊢; grind
      · rcases List.mem_append.mp hp with hp | hp
        · exact ⟨hin p hp (I, oI) (by simp), hin p hp (C, oC) (by simp), hin p hp (D, LCg.lst ys) (by simp)⟩
        · exact o3 p hp
      · rw [← List.append_assoc]; exact hS _
      · rw [← List.append_assoc]
        refine ih (i + 1) _ (tl2 ++ tl) (by omega) (off_app (fun p hp b hb => ?_) ht) ?_
        · obtain ⟨q, hq1, rfl⟩ := List.mem_map.mp hb
          exact hin p hp q (by simp [hq1])
        · rw [take_at hg, List.append_assoc]
          show DatAll _ _ (List.map rD _)
          rw [List.map_append]
          exact DatAll.append (DatAll.mono (fun p hp => List.mem_append.mpr (.inr hp)) hy) (.one hq.dat)
  exact key n 0 [] [] (by omega) (fun _ h => nomatch h) .nil
end



theorem ConT.use {f : Addr} {dd du : Nat} {Rel : Led → List Value → Prop} {Out : Led → Led → Value → Prop} (C : ConT w p loose mean mg mb f dd du Rel Out)
    {dp un : Nat} {gd : Option (List Code)} {cn : Str} {cs : Scope} {a : Addr} {ccd : Value} {cl : List (Str × Addr)} {outer : List Env} {A₀ : Around} {base h₀ : Heap} {L : Addr} {m : Str → Option Value} {ps : Array Value} {rest : Led} {s : Shared} {vs : List Value}
    {Q E : Value → Shared → Prop} (B : Below A₀ base outer h₀) (F : Fr h₀ L s.heap m) (X : (KK w.params).In h₀) (N : News h₀ L s.heap ((196, tabObj ps) :: rest)) (T : Top p loose mean mg mb h₀) (hk : cs.kind = .function) (hR : Rel rest vs) (hne : ∀ q ∈ rest, q.1 ≠ 196) (hts : ps = #[] ∨ HitA ps rest) (hd : dp + dd < recursionLimit) (hu : un + du < cLine)
    (ret : ∀ r tl ps' h' tk', Fr h₀ L h' m → News h₀ L h' (tl ++ (196, tabObj ps') :: rest) → OwnOff tl (196 :: rest.map (·.1)) → HitA ps' (tl ++ rest) → (HitA ps rest → ps' = ps) → Out rest tl r → Q r { s with heap := h', toks := tk' }) :
    wpAny (model LP w) (ktrTop dp un gd cn cs L a ccd cl outer) (call (.ref f) vs) Q E s := C _ _ _ _ _ _ _ _ _ _ _ _ _ _ _ _ _ _ _ _ B F X N T hk hR hne hts hd hu ret
theorem ConT.useS {f : Addr} {dd du : Nat} {Rel : Led → List Value → Prop} {Out : Led → Led → Value → Prop} (C : ConT w p loose mean mg mb f dd du Rel Out)
    {dp un : Nat} {gd : Option (List Code)} {cn : Str} {cs : Scope} {a : Addr} {ccd : Value} {cl : List (Str × Addr)} {outer : List Env} {A₀ : Around} {base h₀ : Heap} {L : Addr} {m : Str → Option Value} {ps : Array Value} {all rest : Led} {s : Shared} {vs : List Value}
    {Q E : Value → Shared → Prop} (B : Below A₀ base outer h₀) (F : Fr h₀ L s.heap m) (X : (KK w.params).In h₀) (N : News h₀ L s.heap all) (sp : ∀ q ∈ (196, tabObj ps) :: rest, q ∈ all) (T : Top p loose mean mg mb h₀) (hk : cs.kind = .function) (hR : Rel rest vs) (hne : ∀ q ∈ rest, q.1 ≠ 196) (hts : ps = #[] ∨ HitA ps rest) (hd : dp + dd < recursionLimit) (hu : un + du < cLine)
    (ret : ∀ r tl ps' h' tk', Fr h₀ L h' m → News h₀ L h' (tl ++ (196, tabObj ps') :: rest) → OwnOff tl (196 :: rest.map (·.1)) → HitA ps' (tl ++ rest) → (HitA ps rest → ps' = ps) → Out rest tl r → Q r { s with heap := h', toks := tk' }) :
    wpAny (model LP w) (ktrTop dp un gd cn cs L a ccd cl outer) (call (.ref f) vs) Q E s := C.use B F X (fun q hq => N q (sp q hq)) T hk hR hne hts hd hu ret
theorem IsQs.keep {news news' : Led} (hs : ∀ p ∈ news, p.2.cls = .type "tuple" → p ∈ news') : ∀ {vs : List Value} {qs : List (Int × Int)}, IsQs news vs qs → IsQs news' vs qs
  | [], [], _ => .nil
  | [], _ :: _, h => absurd (DatAll.length h) (by simp)
  | _ :: _, [], h => absurd (DatAll.length h) (by simp)
  | v :: vs, q :: qs, h => by
    cases h with
    | cons h1 h2 =>
      obtain ⟨a, t, u, k, rfl, hm⟩ := (isQ_of h1).out
      exact .cons (IsQ.dat (.mk (hs _ hm rfl))) (IsQs.keep hs h2)
theorem off1_mem {D : Addr} {l : Led} (h : LCg.Off1 D l) : ∀ p ∈ l, p.1 ≠ D := by
  induction l with
  | nil => intro p hp; exact nomatch hp
  | cons a l ih =>
    intro p hp
    rcases List.mem_cons.mp hp with rfl | hp
    · exact h.1
    · exact ih h.2 p hp
theorem Hit.keep {pos : Pos} {qual : Str} {ps : Array Value} {led led' : Led} (h : Hit pos qual ps led) (s : ∀ p ∈ led, (∃ vs, p.2.data = .fields vs) → p ∈ led') : Hit pos qual ps led' := by
  obtain ⟨a, c', oc, vs, t, b, c, d, e⟩ := h
  exact ⟨a, c', oc, vs, t, b, s _ c ⟨vs, d⟩, d, e⟩
/-- what comes back of quantile7: the quantiles of a sorted list of the items -/
def QsOut (qs ss : List (Int × Int)) (f : List (Int × Int) → Int × Int → Int × Int) (nw tl : Led) (r : Value) : Prop :=
  ∃ rs D c ys, rs.Perm qs ∧ rs.Pairwise (fun a b => a.1 * b.2 ≤ b.1 * a.2) ∧ r = .ref D ∧ (D, listOf (List.toArray ys) c) ∈ tl ∧ IsQs (tl ++ nw) ys (ss.map (f rs))
abbrev QsFit (qs ss : List (Int × Int)) (f : List (Int × Int) → Int × Int → Int × Int) : Prop := ∀ rs, rs.Perm qs → rs.Pairwise (fun a b => a.1 * b.2 ≤ b.1 * a.2) → ∀ p ∈ ss, QFit rs p (f rs p)
abbrev Den (qs : List (Int × Int)) : Prop := ∀ q ∈ qs, q.2 = 1 ∨ q.2 = 2 ∨ q.2 = 3
local macro_rules | `(tactic| walk_at "call ref") => `(tactic| (k_dflt (refine' ConT.useS (ascending_con _ _) ?B ?F ?X ?N ?sp ?T ?K ?R ?ne ?ts ?d ?u ?_; (case B => k_asm); (case F => k_asm); (case X => k_asm); (case N => k_asm); (case sp => assumption); (case T => k_asm); (case K => exact rfl); (case R => assumption); (case ne => assumption); (case ts => assumption); (case d => omega); (case u => omega)); k_whole; intro r' tl' ps' h' tk' F' N' off' hit' he' out'))
local macro_rules | `(tactic| k_all) => `(tactic| (with_reducible assumption))
local macro_rules | `(tactic| k_updF) => `(tactic| k_dflt (exact UpdF.head (by assumption)))
set_option maxHeartbeats 8000000 in
theorem quantile7_con (qs ss : List (Int × Int)) (f : List (Int × Int) → Int × Int → Int × Int) : ConT w p loose mean mg mb 227 30 1500 (fun nw vs => ∃ v l us n l2 us2 n2, vs = [v, .ref l2] ∧ VecAt w nw l v ∧ (l, listOf us.toArray n) ∈ nw ∧ IsQs nw us qs ∧ (l2, listOf us2.toArray n2) ∈ nw ∧ IsQs nw us2 ss ∧ Den qs ∧ 0 < qs.length ∧ qs.length < 64 ∧ ss.length < 64 ∧ QsFit qs ss f) (QsOut qs ss f) := by
  unfold ConT
  intro dp un gd cn cs a ccd cl outer A₀ base h₀ L m ps rest s vs Q E B F X N T hk hR hne hts hd hu hret
  obtain ⟨v, l, us, n, l2, us2, n2, rfl, hv, hm, hq, hm2, hq2, hs, h1, h64, h642, hfit⟩ := hR
  have hT : Touch PySem.Challenge.rw_ov0057_01 KK := by (k_fill; trivial)
  clear hT
  k_with_none
  obtain ⟨xv, dv, t0, t1, t2, t3, t4, t5, nv, rfl, hx, hdv⟩ := hv.out
  k_dflt (refine' enterX (R := EndT ps rest (QsOut qs ss f)) [(Str.ofString "v", .ref xv), (Str.ofString "probs", .ref l2)] B F X N T hk ?k8 ?kR ?k6 ?k7 ?k9 ?kB ?kD ?c2 ?c3 ?c4 ?_; (case k8 => omega); (case kR => exact endT_ret hret); (case k6 => k_is); (case k7 => k_is); (case k9 => exact rfl); (case kB => exact rfl); (case kD => decide +kernel); (case c2 => exact rfl); (case c3 => exact rfl); (case c4 => exact rfl))
  clear B F X N T hret Q E hk A₀ m
  intro g L' h' tk' cells' F' N' Y' B' X' T' l1 hcode
  clear hcode
  first | (obtain ⟨o0, hE', d0⟩ := PyProof.Rows.CellsAre.one Y'; subst hE'; clear Y') | cases Y'
  (try simp only [List.cons_append, List.nil_append] at N'); (try dsimp only at F' N'); (try k_fold)
  have hs0 : ∀ q ∈ qs, 0 < q.2 := fun q hq => by have := hs q hq; omega
  have hqr : IsQs ((196, tabObj ps) :: rest) us qs := DatAll.mono (fun p hp => .tail _ hp) hq
  have hqr2 : IsQs ((L' + 1, o0) :: (196, tabObj ps) :: rest) us qs := DatAll.mono (fun p hp => .tail _ (.tail _ hp)) hq
  have hsp : ∀ q ∈ ((196, tabObj ps) :: (L' + 1, o0) :: rest : Led), q ∈ ((L' + 1, o0) :: (196, tabObj ps) :: rest : Led) := by
    intro q hq; simp only [List.mem_cons] at hq ⊢; grind
  have h196 : 196 < L' := l1 (196, tabObj ps) (.head _)
  have hA : ∀ q ∈ rest, q.1 ≠ L' + 1 := fun q hq => Nat.ne_of_lt (Nat.lt_succ_of_lt (l1 q (.tail _ hq)))
  have hne2 : ∀ q ∈ ((L' + 1, o0) :: rest : Led), q.1 ≠ 196 := by
    intro q hq
    rcases List.mem_cons.mp hq with rfl | hq
    · exact Nat.ne_of_gt (Nat.lt_succ_of_lt h196)
    · exact hne q hq
  have hts2 : ps = #[] ∨ HitA ps ((L' + 1, o0) :: rest) := hts.imp id fun h => h.mono fun p hp => .tail _ hp
  have hRa : ∃ l' n', ([.ref l] : List Value) = [.ref l'] ∧ (l', listOf us.toArray n') ∈ ((L' + 1, o0) :: rest : Led) ∧ IsQs ((L' + 1, o0) :: rest) us qs ∧ Den qs ∧ 0 < qs.length ∧ qs.length < 64 := ⟨l, n, rfl, .tail _ hm, DatAll.mono (fun p hp => .tail _ hp) hq, hs, h1, h64⟩
  k_steps
  rename_i r1 tl1 ps1 h1' tk1 F1 N1 off1 hit1 he1 out1
  obtain ⟨D, cD, usr, rs, rfl, hD, hrs, hperm, hpw⟩ := out1
  have hA2 : ∀ q ∈ (tl1 ++ (196, tabObj ps1) :: rest : Led), q.1 ≠ L' + 1 := by
    intro q hq
    rcases List.mem_append.mp hq with hq | hq
    · exact off1 q hq _ (.tail _ (.head _))
    · rcases List.mem_cons.mp hq with rfl | hq
      · exact Nat.ne_of_lt (Nat.lt_succ_of_lt h196)
      · exact hA q hq
  have N2 : News g L' h1' ((L' + 1, o0) :: (tl1 ++ (196, tabObj ps1) :: rest)) := by
    intro q hq
    refine N1 q ?_
    simp only [List.mem_cons, List.mem_append] at hq ⊢; grind
  clear N1 hsp hne2 hts2 hRa
  k_steps
  (rename Fr _ _ _ _ => lF'); (rename News _ _ _ _ => lN'); (rename _ = Data.cell (some (Value.ref D)) => hC1); (rename Obj => o1c)
  have hq2s := hq2
  have h2len : us2.length = ss.length := by rw [DatAll.length hq2, List.length_map]
  have hlenr : rs.length = qs.length := hperm.length_eq
  refine LCg.CompSrc.ledger rfl lF' lN' (.tail _ (List.mem_append.mpr (.inr (.tail _ hm2)))) (by rw [sizeLine_eq]; simp; omega) (fun gg => ?_)
  refine comp_q (ss.map (f rs)) _ (by simp [h2len]) (fun tl => .inr ⟨_, List.mem_append.mpr (.inr (.tail _ (List.mem_append.mpr (.inr (.tail _ hm2))))), rfl, _, rfl⟩) ?turn ?fin
  case turn =>
    intro i v gq tlc I oI C oC Dc m₂ ys hc tkc Ec hg hvi hCo hx2 Fc Nc off ne ht
    have hvi' : us2[i]? = some v := by simpa using hvi
    obtain ⟨q, hqi, rfl⟩ : ∃ q, ss[i]? = some q ∧ f rs q = gq := by
      rw [List.getElem?_map] at hg
      exact Option.map_eq_some_iff.mp hg
    obtain ⟨v', hv', hvq⟩ := hq2s.get hqi
    rw [hvi'] at hv'
    obtain rfl : v = v' := Option.some.inj hv'
    obtain ⟨va, vt, vu, vk, rfl, hvm⟩ := hvq.out
    have hff := hfit rs hperm hpw q (List.mem_of_getElem? hqi)
    clear hg hvi hvi' hv' lF' lN'
    have hsub : ∀ p ∈ rest, p ∈ tlc ++ ((L' + 1, o1c) :: (tl1 ++ (196, tabObj ps1) :: rest)) := by
      intro p hp; simp only [List.mem_append, List.mem_cons]; exact .inr (.inr (.inr (.inr hp)))
    have hC2 : (L' + 1, o1c) ∈ tlc ++ ((L' + 1, o1c) :: (tl1 ++ (196, tabObj ps1) :: rest)) := by simp
    have hD2 : (D, listOf usr.toArray cD) ∈ tlc ++ ((L' + 1, o1c) :: (tl1 ++ (196, tabObj ps1) :: rest)) := by
      simp only [List.mem_append, List.mem_cons]; exact .inr (.inr (.inl hD))
    replace hvm := hsub _ hvm
    have hrs2 := hrs _ (DatAll.mono hsub hq)
    clear hsub ht
    generalize tlc ++ ((L' + 1, o1c) :: (tl1 ++ (196, tabObj ps1) :: rest)) = bs at *
    have hrs3 : IsQs ((I, oI) :: (C, oC) :: (Dc, LCg.lst ys) :: bs) usr rs := DatAll.mono (fun p hp => .tail _ (.tail _ (.tail _ hp))) hrs2
    clear hq hq2 hq2s hqr hqr2 hA2 hrs hm hm2 hx hdv hv
    k_steps
    exact TurnEnd.intro _ (by assumption) (by assumption) (by assumption) (‹∀ led, IsQs led usr rs → IsQ (_ ++ led) _ _ _› _ hrs2)
  case fin =>
    intro ys tlc ht hys
    intro Df hf tkf Ff Nf off
    dsimp only
    k_unfold
    have o1 := off1_mem off
    refine EndsR.intro Ff Nf ⟨(Df, LCg.lst ys) :: (tlc ++ ((L' + 1, o1c) :: tl1)), ps1, ?_, ?_, hit1.keep ?_, fun hh => he1 (hh.mono fun p hp => .tail _ hp), rs, Df, ys.length, ys, hperm, hpw, rfl, .head _, hys.keep ?_⟩
    · intro p hp; simp only [List.mem_append, List.mem_cons] at hp ⊢; grind
    · have hin : ∀ b ∈ (196 :: rest.map (·.1) : List Addr), ∃ q ∈ ((196, tabObj ps1) :: rest : Led), q.1 = b := by
        intro b hb
        rcases List.mem_cons.mp hb with rfl | hb
        · exact ⟨_, .head _, rfl⟩
        · obtain ⟨q, hq1, rfl⟩ := List.mem_map.mp hb; exact ⟨q, .tail _ hq1, rfl⟩
      intro p hp b hb
      obtain ⟨q, hq1, rfl⟩ := hin b hb
      rcases List.mem_cons.mp hp with rfl | hp
      · exact fun e => o1 q (List.mem_append.mpr (.inr (.tail _ (List.mem_append.mpr (.inr hq1))))) e.symm
      · rcases List.mem_append.mp hp with hp | hp
        · exact ht p hp _ (List.mem_map.mpr ⟨q, .tail _ (List.mem_append.mpr (.inr hq1)), rfl⟩)
        · rcases List.mem_cons.mp hp with rfl | hp
          · exact fun e => hA2 q (List.mem_append.mpr (.inr hq1)) e.symm
          · refine off1 p hp _ ?_
            rcases List.mem_cons.mp hq1 with rfl | hq1
            · exact .head _
            · exact .tail _ (.tail _ (List.mem_map.mpr ⟨q, hq1, rfl⟩))
    · intro p hp hf
      rcases List.mem_append.mp hp with hp | hp
      · simp only [List.mem_append, List.mem_cons]; grind
      · rcases List.mem_cons.mp hp with rfl | hp
        · obtain ⟨vs, hf⟩ := hf
          rw [d0] at hf; cases hf
        · simp only [List.mem_append, List.mem_cons]; grind
    · intro p hp hf
      simp only [List.mem_append, List.mem_cons] at hp ⊢
      rcases hp with hp | rfl | hp | rfl | hp
      · grind
      · grind
      · grind
      · cases hf
      · grind
theorem sp_here {P : Addr} {o : Obj} {r : Led} : ∀ q ∈ (P, o) :: r, q ∈ (P, o) :: r := fun _ h => h
theorem sp_tail {P : Addr} {o : Obj} {x : Addr × Obj} {a r : Led} (h : ∀ q ∈ (P, o) :: r, q ∈ a) : ∀ q ∈ (P, o) :: x :: r, q ∈ x :: a := by
  intro q hq
  rcases List.mem_cons.mp hq with rfl | hq
  · exact .tail _ (h _ (.head _))
  · rcases List.mem_cons.mp hq with rfl | hq
    · exact .head _
    · exact .tail _ (h _ (.tail _ hq))
theorem sp_app {P : Addr} {o : Obj} {tl a r : Led} (h : ∀ q ∈ (P, o) :: r, q ∈ a) : ∀ q ∈ (P, o) :: (tl ++ r), q ∈ tl ++ a := by
  intro q hq
  rcases List.mem_cons.mp hq with rfl | hq
  · exact List.mem_append.mpr (.inr (h _ (.head _)))
  · rcases List.mem_append.mp hq with hq | hq
    · exact List.mem_append.mpr (.inl hq)
    · exact List.mem_append.mpr (.inr (h _ (.tail _ hq)))
theorem ne_cons {x : Addr × Obj} {r : Led} (h : x.1 ≠ (196 : Nat)) (k : ∀ q ∈ r, q.1 ≠ 196) : ∀ q ∈ x :: r, q.1 ≠ 196 := by
  intro q hq
  rcases List.mem_cons.mp hq with rfl | hq
  · exact h
  · exact k q hq
theorem ts_cons {x : Addr × Obj} {r : Led} {ps : Array Value} (h : ps = #[] ∨ HitA ps r) : ps = #[] ∨ HitA ps (x :: r) := h.imp id fun h => h.mono fun _ hp => .tail _ hp
/-- what quantile7 asks -/
def Q7R (qs ss : List (Int × Int)) (f : List (Int × Int) → Int × Int → Int × Int) (w : World) (nw : Led) (vs : List Value) : Prop :=
  ∃ v l us n l2 us2 n2, vs = [v, .ref l2] ∧ VecAt w nw l v ∧ (l, listOf us.toArray n) ∈ nw ∧ IsQs nw us qs ∧ (l2, listOf us2.toArray n2) ∈ nw ∧ IsQs nw us2 ss ∧ Den qs ∧ 0 < qs.length ∧ qs.length < 64 ∧ ss.length < 64 ∧ QsFit qs ss f
theorem Q7R.mk {qs ss : List (Int × Int)} {f : List (Int × Int) → Int × Int → Int × Int} {nw : Led} {v : Value} {l l2 : Addr} {us us2 : List Value} {n n2 : Nat} (hv : VecAt w nw l v) (hm : (l, listOf us.toArray n) ∈ nw) (hq : IsQs nw us qs) (hm2 : (l2, listOf us2.toArray n2) ∈ nw) (hq2 : IsQs nw us2 ss) (hd : Den qs) (h0 : 0 < qs.length) (h1 : qs.length < 64) (h2 : ss.length < 64) (hf : QsFit qs ss f) : Q7R qs ss f w nw [v, .ref l2] :=
  ⟨v, l, us, n, l2, us2, n2, rfl, hv, hm, hq, hm2, hq2, hd, h0, h1, h2, hf⟩
theorem qs_cons {x : Addr × Obj} {r : Led} {us : List Value} {qs : List (Int × Int)} (h : IsQs r us qs) : IsQs (x :: r) us qs := DatAll.mono (fun _ hp => .tail _ hp) h
/-- a goal that the walk leaves to the hand -/
def Hold (P : Prop) : Prop := P
theorem hold {P : Prop} (h : Hold P) : P := h
local macro_rules | `(tactic| k_all) => `(tactic| (with_reducible assumption))
local macro_rules | `(tactic| k_updF) => `(tactic| k_dflt (exact UpdF.head (by assumption)))
local macro_rules | `(tactic| walk_at "call ref") => `(tactic| (k_dflt (refine' ConT.useS (quantile7_con _ _ _) ?B ?F ?X ?N ?sp ?T ?K ?R ?ne ?ts ?d ?u ?_; (case B => k_asm); (case F => k_asm); (case X => k_asm); (case N => k_asm); (case sp => (repeat (first | exact sp_here | refine sp_tail ?_ | refine sp_app ?_))); (case T => k_asm); (case K => exact rfl); (case R => (refine' Q7R.mk (VecAt.mk ?m1 ?m2) ?m3 ?o1 ?m4 ?o2 ?o3 ?o4 ?o5 ?o6 ?o7; (case m1 => k_mem); (case m2 => k_mem); (case m3 => k_mem); (case o1 => first | assumption | (repeat (refine qs_cons ?_); assumption)); (case m4 => k_mem); (case o2 => first | assumption | (repeat (refine qs_cons ?_); assumption)); (case o3 => assumption); (case o4 => assumption); (case o5 => assumption); (case o6 => assumption); (case o7 => assumption))); (case ne => first | assumption | (repeat (refine ne_cons (by omega) ?_); assumption)); (case ts => first | assumption | (repeat (refine ts_cons ?_); assumption)); (case d => omega); (case u => omega)); k_whole; intro r' tl' ps' h' tk' F' N' off' hit' he' out'))


theorem q7_step {us us2 : List Value} {qs ss : List (Int × Int)} {f : List (Int × Int) → Int × Int → Int × Int} {dp un : Nat} {gd : Option (List Code)} {cn : Str} {cs : Scope} {a : Addr} {ccd : Value} {cl : List (Str × Addr)} {outer : List Env} {A₀ : Around} {base h₀ : Heap} {L : Addr} {m : Str → Option Value} {ps : Array Value} {rest : Led} {s : Shared}
    {Q E : Value → Shared → Prop} {x d D l2 : Addr} {t0 t1 t2 t3 t4 t5 : Tok} {n n2 c : Nat} (B : Below A₀ base outer h₀) (F : Fr h₀ L s.heap m) (X : (KK w.params).In h₀) (N : News h₀ L s.heap ((x, instObj 171 d) :: (d, vecD w t0 t1 t2 t3 t4 t5 D n) :: (D, listOf us.toArray c) :: (196, tabObj ps) :: rest)) (T : Top p loose mean mg mb h₀) (hk : cs.kind = .function)
    (lD : 196 < D ∧ AllLt D rest) (ld : D < d) (lx : d < x) (hq : IsQs rest us qs) (hm2 : (l2, listOf us2.toArray n2) ∈ rest) (hq2 : IsQs rest us2 ss) (hs : Den qs) (h1 : 0 < qs.length) (h64 : qs.length < 64) (h642 : ss.length < 64) (hfit : QsFit qs ss f)
    (hne : ∀ q ∈ rest, q.1 ≠ 196) (hts : ps = #[] ∨ HitA ps rest) (hd : dp + 30 < recursionLimit) (hu : un + 1500 < cLine)
    (ret : ∀ r tl ps' h' tk', Fr h₀ L h' m → News h₀ L h' (tl ++ (196, tabObj ps') :: rest) → OwnOff tl (196 :: rest.map (·.1)) → HitA ps' (tl ++ rest) → (HitA ps rest → ps' = ps) → QsOut qs ss f rest tl r → Q r { s with heap := h', toks := tk' }) :
    wpAny (model LP w) (ktrTop dp un gd cn cs L a ccd cl outer) (call (.ref 227) [.ref x, .ref l2]) Q E s := by
  have l0 : 196 < D := lD.1
  have lr := lt_of_all lD.2
  refine (quantile7_con qs ss f).useS (ps := ps) (rest := (x, instObj 171 d) :: (d, vecD w t0 t1 t2 t3 t4 t5 D n) :: (D, listOf us.toArray c) :: rest) B F X N ?_ T hk ?_ ?_ ?_ hd hu ?_
  · exact sp_tail (sp_tail (sp_tail sp_here))
  · exact ⟨.ref x, D, us, c, l2, us2, n2, rfl, .mk (.head _) (.tail _ (.head _)), .tail _ (.tail _ (.head _)), qs_cons (qs_cons (qs_cons hq)), .tail _ (.tail _ (.tail _ hm2)), qs_cons (qs_cons (qs_cons hq2)), hs, h1, h64, h642, hfit⟩
  · exact ne_cons (Nat.ne_of_gt (Nat.lt_trans l0 (Nat.lt_trans ld lx))) (ne_cons (Nat.ne_of_gt (Nat.lt_trans l0 ld)) (ne_cons (Nat.ne_of_gt l0) hne))
  · exact ts_cons (ts_cons (ts_cons hts))
  · intro r tl ps' h' tk' F' N' off hit he out
    obtain ⟨rs, Df, cf, ys, o1, o2, o3, o4, o5⟩ := out
    refine ret r (tl ++ [(x, instObj 171 d), (d, vecD w t0 t1 t2 t3 t4 t5 D n), (D, listOf us.toArray c)]) ps' h' tk' F' ?_ ?_ (hit.mono ?_) (fun hh => he (hh.mono fun p hp => .tail _ (.tail _ (.tail _ hp)))) ⟨rs, Df, cf, ys, o1, o2, o3, List.mem_append.mpr (.inl o4), DatAll.mono ?_ o5⟩
    · intro p hp
      refine N' p ?_
      simp only [List.mem_append, List.mem_cons, List.not_mem_nil, or_false] at hp ⊢; grind
    · have lall : ∀ b ∈ (196 :: rest.map (·.1) : List Addr), b < D := by
        intro b hb
        rcases List.mem_cons.mp hb with rfl | hb
        · exact l0
        · obtain ⟨q, hq1, rfl⟩ := List.mem_map.mp hb; exact lr q hq1
      intro p hp b hb
      have lb := lall b hb
      rcases List.mem_append.mp hp with hp | hp
      · refine off p hp b ?_
        rcases List.mem_cons.mp hb with rfl | hb
        · exact .head _
        · exact .tail _ (.tail _ (.tail _ (.tail _ hb)))
      · simp only [List.mem_cons, List.not_mem_nil, or_false] at hp
        rcases hp with rfl | rfl | rfl
        · exact Nat.ne_of_gt (Nat.lt_trans lb (Nat.lt_trans ld lx))
        · exact Nat.ne_of_gt (Nat.lt_trans lb ld)
        · exact Nat.ne_of_gt lb
    · intro p hp; simp only [List.mem_append, List.mem_cons, List.not_mem_nil, or_false] at hp ⊢; grind
    · intro p hp; simp only [List.mem_append, List.mem_cons, List.not_mem_nil, or_false] at hp ⊢; grind
local macro_rules | `(tactic| walk_at "call ref") => `(tactic| ((with_reducible show wpAny _ _ (call (Value.ref 227) _) _ _ _); refine hold ?_))
set_option maxHeartbeats 8000000 in
theorem law_of_con (us : List Value) (qs ss : List (Int × Int)) (f : List (Int × Int) → Int × Int → Int × Int) : ConT w p loose mean mg mb 248 40 2000 (fun nw vs => ∃ l n l2 us2 n2, vs = [.ref l, .ref l2] ∧ (l, listOf us.toArray n) ∈ nw ∧ IsQs nw us qs ∧ (l2, listOf us2.toArray n2) ∈ nw ∧ IsQs nw us2 ss ∧ Den qs ∧ 0 < qs.length ∧ qs.length < 64 ∧ ss.length < 64 ∧ QsFit qs ss f) (QsOut qs ss f) := by
  unfold ConT
  intro dp un gd cn cs a ccd cl outer A₀ base h₀ L m ps rest s vs Q E B F X N T hk hR hne hts hd hu hret
  obtain ⟨l, n, l2, us2, n2, rfl, hm, hq, hm2, hq2, hs, h1, h64, h642, hfit⟩ := hR
  have hT : Touch PySem.Challenge.rw_ov0057_01 KK := by (k_fill; trivial)
  clear hT
  k_with_none
  k_dflt (refine' enterX (R := EndT ps rest (QsOut qs ss f)) [(Str.ofString "items", .ref l), (Str.ofString "shares", .ref l2)] B F X N T hk ?k8 ?kR ?k6 ?k7 ?k9 ?kB ?kD ?c2 ?c3 ?c4 ?_; (case k8 => omega); (case kR => exact endT_ret hret); (case k6 => k_is); (case k7 => k_is); (case k9 => exact rfl); (case kB => exact rfl); (case kD => decide +kernel); (case c2 => exact rfl); (case c3 => exact rfl); (case c4 => exact rfl))
  clear B F X N T hret Q E hk A₀ m
  intro g L' h' tk' cells' F' N' Y' B' X' T' l1 hcode
  clear hcode
  first | (obtain ⟨o0, hE', d0⟩ := PyProof.Rows.CellsAre.one Y'; subst hE'; clear Y') | cases Y'
  (try simp only [List.cons_append, List.nil_append] at N'); (try dsimp only at F' N'); (try k_fold)
  have hlen : us.length = qs.length := by rw [DatAll.length hq, List.length_map]
  k_steps
  show wpAny _ _ _ _ _ _
  (rename News _ _ _ _ => lN')
  k_dflt (refine q7_step B' (by assumption) X' lN' T' rfl (by assumption) (And.left (by assumption)) (by assumption) hq hm2 hq2 hs h1 h64 h642 hfit hne hts (by omega) (by omega) ?_)
  intro r tl ps' h9 tk9 F9 N9 off9 hit9 he9 out9
  clear lN'
  k_steps
  exact EndsR.intro F9 N9 ⟨tl, ps', fun _ h => h, off9, hit9, he9, out9⟩
/-- where the table is filled, nothing of the ledger changes -/
theorem ConT.hit {f : Addr} {dd du : Nat} {Rel : Led → List Value → Prop} {Out : Led → Led → Value → Prop} (C : ConT w p loose mean mg mb f dd du Rel Out) (Rel' : Led → List Value → Prop) (Out' : Led → Led → Value → Prop)
    (hR : ∀ nw vs, Rel' nw vs → ∃ ps rest, (∀ q ∈ (196, tabObj ps) :: rest, q ∈ nw) ∧ (∀ q ∈ rest, q.1 ≠ 196) ∧ (∀ q ∈ nw, q ∈ rest ∨ q.1 = 196) ∧ HitA ps rest ∧ Rel rest vs ∧ ∀ tl r, Out rest tl r → Out' nw tl r) : Con w p loose mean mg mb f dd du Rel' Out' := by
  intro dp un gd cn cs a ccd cl outer A₀ base h₀ L m news s vs Q E B F X N T hk hR' hd hu hret
  obtain ⟨ps, rest, h1, h2, h3, h4, h5, h6⟩ := hR news vs hR'
  refine C _ _ _ _ _ _ _ _ _ _ _ _ _ _ _ _ _ _ _ _ B F X (fun q hq => N q (h1 q hq)) T hk h5 h2 (.inr h4) hd hu fun r tl ps' h' tk' F' N' off hit he out => ?_
  obtain rfl := he h4
  have hP := N (196, tabObj ps') (h1 _ (.head _))
  refine hret r tl h' tk' F' (fun q hq => ?_) (fun q hq b hb => ?_) (h6 _ _ out)
  · rcases List.mem_append.mp hq with hq | hq
    · exact N' q (List.mem_append.mpr (.inl hq))
    · rcases h3 q hq with h | h
      · exact N' q (List.mem_append.mpr (.inr (.tail _ h)))
      · have e1 := (N q hq).1
        have e2 := hP.1
        rw [h] at e1
        rw [e1] at e2
        have e3 : q = (196, tabObj ps') := by
          obtain ⟨qa, qo⟩ := q
          dsimp only at h e2
          rw [h, Option.some.inj e2]
        rw [e3]
        exact N' _ (List.mem_append.mpr (.inr (.head _)))
  · obtain ⟨x, hx, rfl⟩ := List.mem_map.mp hb
    refine off q hq _ ?_
    rcases h3 x hx with h | h
    · exact .tail _ (List.mem_map.mpr ⟨x, h, rfl⟩)
    · show x.1 ∈ _
      rw [h]; exact .head _
theorem hit_rest (ps : Array Value) {nw : Led} (hm : (196, tabObj ps) ∈ nw) (hh : HitA ps nw) : ∃ rest, (∀ q ∈ (196, tabObj ps) :: rest, q ∈ nw) ∧ (∀ q ∈ rest, q.1 ≠ 196) ∧ (∀ q ∈ nw, q ∈ rest ∨ q.1 = 196) := by
  refine ⟨nw.filter fun q => decide (q.1 ≠ 196), ?_, ?_, ?_⟩
  · intro q hq
    rcases List.mem_cons.mp hq with rfl | hq
    · exact hm
    · exact (List.mem_filter.mp hq).1
  · intro q hq
    exact of_decide_eq_true (List.mem_filter.mp hq).2
  · intro q hq
    by_cases h : q.1 = 196
    · exact .inr h
    · exact .inl (List.mem_filter.mpr ⟨hq, decide_eq_true h⟩)



theorem pick_two {l : List Value} {k : Nat} {v1 v2 : Value} {n : Int} (hn : n = (2 * k : Nat)) (hl : (l.length : Int) = n) (hk : 0 < k) (h1 : l[k - 1]? = some v1) (h2 : l[k]? = some v2) : kms_pick l.toArray.toList (some (n.fdiv 2 - 1)) (some (n.fdiv 2 + 1)) = [v1, v2] := by
  have e : n.fdiv 2 = (k : Int) := by
    rw [Int.fdiv_eq_ediv_of_nonneg _ (by decide)]
    omega
  rw [e]
  unfold kms_pick kms_lo kms_hi
  have a1 : ¬ ((k : Int) - 1 < 0) := by omega
  have a2 : ¬ ((k : Int) + 1 < 0) := by omega
  simp only [if_neg a1, if_neg a2]
  have e1 : min ((k : Int) - 1).toNat l.length = k - 1 := by omega
  have e2 : min ((k : Int) + 1).toNat l.length = k + 1 := by omega
  rw [e1, e2]
  have e3 : k + 1 - (k - 1) = 2 := by omega
  rw [e3]
  have b1 : k - 1 < l.length := by omega
  have b2 : k < l.length := by omega
  rw [List.drop_eq_getElem_cons b1]
  have e4 : k - 1 + 1 = k := by omega
  rw [e4, List.drop_eq_getElem_cons b2]
  rw [List.getElem?_eq_getElem b1] at h1
  rw [List.getElem?_eq_getElem b2] at h2
  rw [Option.some.inj h1, Option.some.inj h2]
  rfl
theorem slice_q {A : Around} {E : Value → Shared → Prop} {s : Shared} {h₀ : Heap} {L l : Addr} {m : Str → Option Value} {news : Led} {us zs : List Value} {n : Nat} {value slice : PySem.Expr} {vl vu : Value} {lo hi : Option Int} {Q : Value → Shared → Prop} (F : Fr h₀ L s.heap m) (N : News h₀ L s.heap news) (hm : (l, listOf us.toArray n) ∈ news) (pl : IsPart vl lo) (pu : IsPart vu hi) (e : kms_pick us.toArray.toList lo hi = zs) (hz : us.length < 2 ^ 14)
    (h : ∀ D h', Fr h₀ L h' m → News h₀ L h' ((D, listOf zs.toArray 0) :: news) → (∀ p ∈ news, p.1 < D) → Q (.ref D) { s with heap := h' })
    (hs : subscripted slice false (.ref l) (.ref s.heap.objs.size) = operate [.ref s.heap.objs.size, .ref l] (getItem (.ref l) (.ref s.heap.objs.size))) (ht : ∀ r, letTemporaryGo value (.ref l) r = pure ()) :
    wpAny (model LP w) A (subscriptTail value slice (.ref l) (.ref s.heap.objs.size)) Q E { s with heap := s.heap.push { cls := .type "slice", data := .fields #[vl, vu, .none] } } :=
  kms_slice_lit F N (isQ_list N hm) pl pu e h hs ht (by rw [sizeLine_eq]; simp; omega)
/-- the middle: the numbers at hand, and the answer -/
def MedFit (rs : List (Int × Int)) (r : Int × Int) : Prop :=
  (∃ k x1 x2, rs.length = 2 * k ∧ 0 < k ∧ rs[k - 1]? = some x1 ∧ rs[k]? = some x2 ∧ SmQ x1 ∧ SmQ x2 ∧ (∀ j, SmQ (sumQ ([x1, x2].take j))) ∧ r = meanQ [x1, x2]) ∨ (∃ k, rs.length = 2 * k + 1 ∧ rs[k]? = some r)
def MedOut (w : World) (qs : List (Int × Int)) (fm : List (Int × Int) → Int × Int) (nw tl : Led) (r : Value) : Prop :=
  ∃ rs lr c v, rs.Perm qs ∧ rs.Pairwise (fun a b => a.1 * b.2 ≤ b.1 * a.2) ∧ VecAt w tl lr r ∧ (lr, listOf #[v] c) ∈ tl ∧ IsQ (tl ++ nw) v (fm rs).1 (fm rs).2
theorem med_end {g : Heap} {s : Shared} {L' : Addr} {h' : Heap} {tk' : Nat} {m' : Str → Option Value} {x d lr : Addr} {t0 t1 t2 t3 t4 t5 : Tok} {n c : Nat} {v : Value} {tlm rest : Led} {ps ps1 : Array Value} {qs rs : List (Int × Int)} {fm : List (Int × Int) → Int × Int}
    (F : Fr g L' h' m') (N : News g L' h' ((x, instObj 171 d) :: (d, vecD w t0 t1 t2 t3 t4 t5 lr n) :: (lr, listOf #[v] c) :: (tlm ++ (196, tabObj ps1) :: rest))) (lm : ∀ p ∈ tlm ++ (196, tabObj ps1) :: rest, p.1 < lr) (l1 : lr < d) (l2 : d < x) (offm : OwnOff tlm (196 :: rest.map (·.1)))
    (hit : HitA ps1 (tlm ++ rest)) (he : HitA ps rest → ps1 = ps) (hperm : rs.Perm qs) (hpw : rs.Pairwise (fun a b => a.1 * b.2 ≤ b.1 * a.2)) (hv : IsQ (tlm ++ rest) v (fm rs).1 (fm rs).2) : EndsR g s (EndT ps rest (MedOut w qs fm)) (.ret (.ref x)) { s with heap := h', toks := tk' } := by
  refine EndsR.intro F N ⟨(x, instObj 171 d) :: (d, vecD w t0 t1 t2 t3 t4 t5 lr n) :: (lr, listOf #[v] c) :: tlm, ps1, ?_, ?_, hit.mono fun p hp => .tail _ (.tail _ (.tail _ hp)), he, rs, lr, c, v, hperm, hpw, .mk (.head _) (.tail _ (.head _)), .tail _ (.tail _ (.head _)), hv.mono fun p hp => .tail _ (.tail _ (.tail _ hp))⟩
  · intro p hp; exact hp
  · have lb : ∀ b ∈ (196 :: rest.map (·.1) : List Addr), b < lr := by
      intro b hb
      rcases List.mem_cons.mp hb with rfl | hb
      · exact lm (196, tabObj ps1) (List.mem_append.mpr (.inr (.head _)))
      · obtain ⟨q, hq, rfl⟩ := List.mem_map.mp hb
        exact lm q (List.mem_append.mpr (.inr (.tail _ hq)))
    intro p hp b hb
    have hlt := lb b hb
    rcases List.mem_cons.mp hp with rfl | hp
    · exact Nat.ne_of_gt (Nat.lt_trans hlt (Nat.lt_trans l1 l2))
    · rcases List.mem_cons.mp hp with rfl | hp
      · exact Nat.ne_of_gt (Nat.lt_trans hlt l1)
      · rcases List.mem_cons.mp hp with rfl | hp
        · exact Nat.ne_of_gt hlt
        · exact offm p hp b hb
local macro_rules | `(tactic| walk_at "call ref") => `(tactic| ((with_reducible show wpAny _ _ (call (Value.ref 201) _) _ _ _); refine hold ?_))
local macro_rules | `(tactic| walk_at "call ref") => `(tactic| ((with_reducible show wpAny _ _ (call (Value.ref 194) _) _ _ _); refine hold ?_))
local macro_rules | `(tactic| walk_at "subscriptTail Name Slice ref ref") => `(tactic| ((with_reducible show wpAny _ _ (subscriptTail _ (PySem.Expr.Slice _ _ none _) (Value.ref _) (Value.ref _)) _ _ _); k_dflt (refine' slice_q ?F ?N ?l ?p ?q ?e ?z ?_ ?s ?t; (case F => k_asm); (case N => k_asm); (case l => k_mem); (case p => kmk_part); (case q => kmk_part); (case e => assumption); (case z => omega); (case s => with_unfolding_all rfl); (case t => kmk_pure)); intro D' h' F' N' l1))
set_option maxHeartbeats 8000000 in
theorem median_of_con (qs : List (Int × Int)) (fm : List (Int × Int) → Int × Int) : ConT w p loose mean mg mb 215 40 2000 (fun nw vs => ∃ v l us n, vs = [v] ∧ VecAt w nw l v ∧ (l, listOf us.toArray n) ∈ nw ∧ IsQs nw us qs ∧ Den qs ∧ 0 < qs.length ∧ qs.length < 64 ∧ ∀ rs, rs.Perm qs → rs.Pairwise (fun a b => a.1 * b.2 ≤ b.1 * a.2) → MedFit rs (fm rs)) (MedOut w qs fm) := by
  unfold ConT
  intro dp un gd cn cs a ccd cl outer A₀ base h₀ L m ps rest s vs Q E B F X N T hk hR hne hts hd hu hret
  obtain ⟨v, l, us, n, rfl, hv, hm, hq, hs, h1, h64, hfit⟩ := hR
  have hT : Touch PySem.Challenge.rw_ov0057_01 KK := by (k_fill; trivial)
  clear hT
  k_with_none
  obtain ⟨xv, dv, t0, t1, t2, t3, t4, t5, nv, rfl, hx, hdv⟩ := hv.out
  k_dflt (refine' enterX (R := EndT ps rest (MedOut w qs fm)) [(Str.ofString "v", .ref xv)] B F X N T hk ?k8 ?kR ?k6 ?k7 ?k9 ?kB ?kD ?c2 ?c3 ?c4 ?_; (case k8 => omega); (case kR => exact endT_ret hret); (case k6 => k_is); (case k7 => k_is); (case k9 => exact rfl); (case kB => exact rfl); (case kD => decide +kernel); (case c2 => exact rfl); (case c3 => exact rfl); (case c4 => exact rfl))
  clear B F X N T hret Q E hk A₀ m
  intro g L' h' tk' cells' F' N' Y' B' X' T' l1 hcode
  clear hcode
  first | (obtain ⟨o0, hE', d0⟩ := PyProof.Rows.CellsAre.one Y'; subst hE'; clear Y') | cases Y'
  (try simp only [List.cons_append, List.nil_append] at N'); (try dsimp only at F' N'); (try k_fold)
  have hlen : us.length = qs.length := by rw [DatAll.length hq, List.length_map]
  have hs0 : ∀ q ∈ qs, 0 < q.2 := fun q hq => by have := hs q hq; omega
  have hqr : IsQs ((196, tabObj ps) :: rest) us qs := DatAll.mono (fun p hp => .tail _ hp) hq
  k_steps
  show wpAny _ _ _ _ _ _
  (rename News _ _ _ _ => lN')
  k_dflt (refine ConT.useS (ascending_con us qs) B' (by assumption) X' lN' sp_here T' rfl ⟨l, n, rfl, hm, hq, hs, h1, h64⟩ hne hts (by omega) (by omega) ?_)
  intro r1 tl1 ps1 h1' tk1 F1 N1 off1 hit1 he1 out1
  obtain ⟨D, cD, usr, rs, rfl, hD, hrs, hperm, hpw⟩ := out1
  have hlenr : rs.length = qs.length := hperm.length_eq
  have hmed := hfit rs hperm hpw
  have hrs2 := hrs _ hq
  have hlenu : usr.length = rs.length := by rw [DatAll.length hrs2, List.length_map]
  clear lN'
  rcases hmed with ⟨k, x1, x2, hk, hk0, hx1, hx2, sm1, sm2, sm3, hfm⟩ | ⟨k, hk, hx1⟩
  · obtain ⟨v1, hv1, hd1⟩ := hrs2.get hx1
    obtain ⟨v2, hv2, hd2⟩ := hrs2.get hx2
    have hpick : kms_pick usr.toArray.toList (some ((usr.length : Int).fdiv 2 - 1)) (some ((usr.length : Int).fdiv 2 + 1)) = [v1, v2] := pick_two (by omega) rfl hk0 hv1 hv2
    have hpar : (usr.length : Int).fmod 2 = 0 := by rw [Int.fmod_eq_emod_of_nonneg _ (by decide)]; omega
    k_steps
    all_goals (try (exfalso; omega))
    show wpAny _ _ _ _ _ _
    (rename News _ _ _ _ => lN')
    k_dflt (refine Con.use (mean_items_con [x1, x2]) B' (by assumption) X' lN' T' rfl ⟨SumR.mk (.head _) (.cons (hd1.mono fun p hp => .tail _ (List.mem_append.mpr (.inr (.tail _ hp)))).dat (.cons (hd2.mono fun p hp => .tail _ (List.mem_append.mpr (.inr (.tail _ hp)))).dat .nil)) (fun q hq => by
      rcases List.mem_cons.mp hq with rfl | hq
      · exact sm1
      · rw [List.mem_singleton.mp hq]; exact sm2) sm3 (by simp), by simp, by simp⟩ (by omega) (by omega) ?_)
    intro r2 tl2 h2' tk2 F2 N2 off2 out2
    clear lN'
    k_steps
    (rename News _ _ _ _ => lN'); (rename Fr _ _ _ _ => lF')
    have e5 : ∀ (X : Led) (Y : Led) (a b c e : Addr × Obj), a :: b :: c :: (tl2 ++ e :: (X ++ Y)) = a :: b :: c :: ((tl2 ++ e :: X) ++ Y) := fun X Y a b c e => by simp
    rw [e5] at lN'
    refine med_end lF' lN' ?_ (And.left (by assumption)) (by assumption) ?_ (hit1.mono ?_) he1 hperm hpw ?_
    · intro p hp
      refine ‹∀ p ∈ tl2 ++ _ :: (tl1 ++ _ :: rest), p.1 < _› p ?_
      simpa using hp
    · refine off_app (fun p hp b hb => ?_) (fun p hp b hb => ?_)
      · refine off2 p hp b (.tail _ ?_)
        rcases List.mem_cons.mp hb with rfl | hb
        · exact List.mem_map.mpr ⟨(196, tabObj ps1), List.mem_append.mpr (.inr (.head _)), rfl⟩
        · obtain ⟨q, hq, rfl⟩ := List.mem_map.mp hb
          exact List.mem_map.mpr ⟨q, List.mem_append.mpr (.inr (.tail _ hq)), rfl⟩
      · rcases List.mem_cons.mp hp with rfl | hp
        · refine Nat.ne_of_gt ?_
          rcases List.mem_cons.mp hb with rfl | hb
          · exact ‹∀ p ∈ tl1 ++ (196, tabObj ps1) :: rest, p.1 < _› (196, tabObj ps1) (List.mem_append.mpr (.inr (.head _)))
          · obtain ⟨q, hq, rfl⟩ := List.mem_map.mp hb
            exact ‹∀ p ∈ tl1 ++ (196, tabObj ps1) :: rest, p.1 < _› q (List.mem_append.mpr (.inr (.tail _ hq)))
        · exact off1 p hp b hb
    · intro p hp; simp only [List.mem_append, List.mem_cons] at hp ⊢; grind
    · rw [hfm]; exact out2.mono fun p hp => List.mem_append.mpr (.inl (List.mem_append.mpr (.inl hp)))
  · obtain ⟨v1, hv1, hd1⟩ := hrs2.get hx1
    have hpar : (usr.length : Int).fmod 2 = 1 := by rw [Int.fmod_eq_emod_of_nonneg _ (by decide)]; omega
    have hfd : (usr.length : Int).fdiv 2 = (k : Int) := by rw [Int.fdiv_eq_ediv_of_nonneg _ (by decide)]; omega
    have hfb : 0 ≤ (usr.length : Int).fdiv 2 ∧ (usr.length : Int).fdiv 2 < 64 := by omega
    have hv2 : usr[((usr.length : Int).fdiv 2).toNat]? = some v1 := by rw [hfd]; simpa using hv1
    clear hfd hv1
    k_steps
    all_goals (try (exfalso; omega))
    (rename News _ _ _ _ => lN'); (rename Fr _ _ _ _ => lF')
    exact med_end lF' lN' (by assumption) (And.left (by assumption)) (by assumption) off1 hit1 he1 hperm hpw (hd1.mono fun p hp => List.mem_append.mpr (.inr hp))



/-- twenty-four small ints -/
def RowIs (us : List Value) (ms : List Int) (n : Nat) : Prop := IntsAre us ms ∧ ms.length = n ∧ ∀ m ∈ ms, 0 ≤ m ∧ m < 1000
section
variable {A : Around} {E : Value → Shared → Prop} {s : Shared} {h₀ : Heap} {L D : Addr} {m : Str → Option Value} {r : Led} {us : List Value} {n : Nat} {x : Value}
theorem append_q {Q : Value → Shared → Prop} (F : Fr h₀ L s.heap m) (N : News h₀ L s.heap ((D, listOf us.toArray n) :: r)) (hne : ∀ p ∈ r, p.1 ≠ D) (hz : us.length < 2 ^ 14)
    (h : ∀ h', Fr h₀ L h' m → News h₀ L h' ((D, listOf (us ++ [x]).toArray (n + 1)) :: r) → Q .none { s with heap := h' }) : wpAny (model LP w) A (call (.builtin "list.append") [.ref D, x]) Q E s := by
  have e : us.toArray.push x = (us ++ [x]).toArray := by simp
  refine append_K F N (Upd.head hne) (fun h' F' N' => h h' F' ?_) (by rw [sizeLine_eq]; simp; omega)
  rw [← e]; exact N'
end
theorem off_cons {D : Addr} {o : Obj} {tl news : Led} (h : ∀ p ∈ news, p.1 ≠ D) (k : OwnOff tl (news.map (·.1))) : OwnOff ((D, o) :: tl) (news.map (·.1)) := by
  intro p hp b hb
  rcases List.mem_cons.mp hp with rfl | hp
  · obtain ⟨q, hq, rfl⟩ := List.mem_map.mp hb
    exact fun e => h q hq e.symm
  · exact k p hp b hb
theorem Tl.swap {tl news : Led} (h : OwnOff tl (news.map (·.1))) : Tl (news ++ tl) news := ⟨tl, led_swap, led_swap, h⟩
theorem Tl.ne {D : Addr} {o : Obj} {rest news : Led} (h : ∀ p ∈ rest, p.1 ≠ D) (k : Tl rest news) : Tl ((D, o) :: rest) news :=
  Tl.cons (a := [(D, o)]) (fun p hp b hb => by
    rw [List.mem_singleton.mp hp]
    obtain ⟨q, hq, rfl⟩ := List.mem_map.mp hb
    exact fun e => h q hq e.symm) k
theorem lt_cons {D : Addr} {x : Addr × Obj} {r : Led} (h : x.1 < D) (k : ∀ p ∈ r, p.1 < D) : ∀ p ∈ x :: r, p.1 < D := by
  intro p hp
  rcases List.mem_cons.mp hp with rfl | hp
  · exact h
  · exact k p hp
theorem fmod_row (d : Int) : 0 ≤ d.fmod 1000 ∧ d.fmod 1000 < 1000 := by
  rw [Int.fmod_eq_emod_of_nonneg _ (by decide)]; omega
theorem RowIs.snoc {us : List Value} {ms : List Int} {n : Nat} {d : Int} {t : Tok} (h : RowIs us ms n) (hd : 0 ≤ d ∧ d < 1000) : RowIs (us ++ [.int d t]) (ms ++ [d]) (n + 1) := by
  obtain ⟨a, b, c⟩ := h
  refine ⟨a.append (.cons _ _ .nil), by simp [b], fun m hm => ?_⟩
  rcases List.mem_append.mp hm with hm | hm
  · exact c m hm
  · rw [List.mem_singleton.mp hm]; exact hd
theorem ints_rep (k : Nat) (t : Tok) : IntsAre (List.replicate k [Value.int 0 t]).flatten (List.replicate k 0) := by
  induction k with
  | zero => exact .nil
  | succ k ih =>
    rw [List.replicate_succ, List.replicate_succ]
    exact .cons 0 t ih
theorem RowIs.pad {us : List Value} {ms : List Int} {n k : Nat} {t : Tok} (h : RowIs us ms n) : RowIs (us ++ (List.replicate k [Value.int 0 t]).flatten) (ms ++ List.replicate k 0) (n + k) := by
  obtain ⟨a, b, c⟩ := h
  refine ⟨a.append (ints_rep k t), by simp [b], fun m hm => ?_⟩
  rcases List.mem_append.mp hm with hm | hm
  · exact c m hm
  · rw [(List.mem_replicate.mp hm).2]; omega
local macro_rules | `(tactic| walk_at "binaryOp Mult ref int") => `(tactic| ((with_reducible show wpAny _ _ (binaryOp Operator.Mult (Value.ref _) (Value.int _ _)) _ _ _); k_dflt (refine' KMa.mul (vs := [_]) ?F ?N ?l ?lo ?hi ?z rfl ?_; (case F => k_asm); (case N => k_asm); (case l => exact isQ_list (by k_asm) (by k_mem)); (case lo => omega); (case hi => omega); (case z => (simp only [List.length_singleton]; omega)); k_whole); intro D' h' F' N' l1; (try k_lt l1)))
local macro_rules | `(tactic| walk_at "binaryOp Add ref ref") => `(tactic| ((with_reducible show wpAny _ _ (binaryOp _ (Value.ref _) (Value.ref _)) _ _ _); refine hold ?_))
def GivenOut (_ tl : Led) (r : Value) : Prop := ∃ D c us ms, r = .ref D ∧ (D, listOf (List.toArray us) c) ∈ tl ∧ RowIs us ms 24
set_option maxHeartbeats 8000000 in
theorem law_given_con {dp un : Nat} {gd : Option (List Code)} {cn : Str} {cs : Scope} {a : Addr} {ccd : Value} {cl : List (Str × Addr)} {outer : List Env} {A₀ : Around} {base h₀ : Heap} {L : Addr} {m : Str → Option Value} {news : Led} {s : Shared} {l : Addr} {vs : List Value} {ns : List Int}
    {Q E : Value → Shared → Prop} (B : Below A₀ base outer h₀) (F : Fr h₀ L s.heap m) (X : (KK w.params).In h₀) (N : News h₀ L s.heap news) (T : Top p loose mean mg mb h₀) (hk : cs.kind = .function) (hl : base.IsList l vs.toArray) (hi : IntsAre vs ns) (hlen : ns.length < 2 ^ 14) (hd : dp + 5 < recursionLimit) (hu : un + 300 < cLine)
    (hret : Ret h₀ L m news s GivenOut Q) : wpAny (model LP w) (ktrTop dp un gd cn cs L a ccd cl outer) (call (.ref 241) [.ref l]) Q E s := by
  have hT : Touch PySem.Challenge.rw_ov0057_01 KK := by (k_fill; trivial)
  clear hT
  k_with "pyIter ref" => (refine hold ?_)
  k_dflt (refine' enterC [(Str.ofString "script", .ref l)] B F X N T hk ?k8 hret ?k6 ?k7 ?k9 ?kB ?c2 ?c3 ?c4 ?c5 ?_; (case k8 => omega); (case k6 => k_is); (case k7 => k_is); (case k9 => exact rfl); (case kB => exact rfl); (case c2 => exact rfl); (case c3 => exact rfl); (case c4 => exact rfl); (case c5 => decide))
  clear B F X N T hret Q E hk A₀ m
  intro g L' h' tk' F' N' B' X' T'
  (try dsimp only [List.reverse, List.reverseAux] at F'); (try k_lift B'); (try k_fold)
  k_steps
  show wpAny _ _ _ _ _ _
  rename_i l0 h2 l1 h3 D0 ws0 h4 lF' lN' hI hC hL l2
  have lNew := lt_of_all l2.2
  have hne0 : ∀ p ∈ news, p.1 ≠ l0 := fun p hp => Nat.ne_of_lt (l1 p hp)
  have hneD : ∀ p ∈ news, p.1 ≠ D0 := fun p hp => Nat.ne_of_lt (lNew p hp)
  have hlD : l0 ≠ D0 := Nat.ne_of_lt l2.1
  refine' kd_listI (σ := List Value × List Int × Nat) (fun c => [(l0, listOf c.1.toArray c.2.2)]) ((D0, listOf ws0.toArray 0) :: news) (fun _ => []) (fun _ c => True) [] (fun pre c => RowIs c.1 c.2.1 pre.length) (l0 :: ((D0, listOf ws0.toArray 0) :: news : Led).map (·.1)) ([], [], 0) rfl (.head _) hI lF' lN' (fun p hp => by simp only [List.append_nil, List.mem_append, List.mem_cons] at hp ⊢; grind) (fun _ => rfl) trivial (fun _ h => nomatch h) ⟨.nil, rfl, fun _ h => nomatch h⟩
      (fun c tl pre post d t u h tk own hE hD hS hO hF hP F1 N1 => ?_) (fun c tl u h tk hO hF hP F1 N1 => ?_)
  · clear lF' lN'
    obtain ⟨us0, ms0, k0⟩ := c
    have hN0 : ∀ p ∈ ((D0, listOf ws0.toArray 0) :: news ++ (tl ++ own) : Led), p.1 ≠ l0 := by
      intro p hp
      rcases List.mem_append.mp hp with hp | hp
      · rcases List.mem_cons.mp hp with rfl | hp
        · exact hlD.symm
        · exact hne0 p hp
      · exact hO p hp l0 (.head _)
    have hpl : pre.length < 64 := by
      have h9 := congrArg List.length hE
      simp only [List.length_take, List.length_append, List.length_cons] at h9
      omega
    obtain ⟨q1, q2, q3⟩ := hP
    dsimp only at q1 q2 q3
    have hul := q1.length
    k_steps
    k_dflt (refine append_q (D := l0) (us := us0) (by assumption) N1 hN0 (by omega) ?_)
    intro h9 F9 N9
    k_steps
    have hsn := fun t => RowIs.snoc (t := t) (show RowIs us0 ms0 pre.length from ⟨q1, q2, q3⟩) (fmod_row (if d < 0 then -d else d))
    rw [show pre.length + 1 = (pre ++ [d]).length by simp] at hsn
    exact end_cell (C := l0) (obj := fun c : List Value × List Int × Nat => listOf c.1.toArray c.2.2) (us0 ++ [_], ms0 ++ [_], k0 + 1) hS (by assumption) N9 (by intro z h1 h2; simp only [h1, if_false, kstB, List.contains_nil, Bool.false_eq_true]) trivial (hsn _)
  · clear lF' lN'
    obtain ⟨us0, ms0, k0⟩ := c
    obtain ⟨q1, q2, q3⟩ := hP
    dsimp only at q1 q2 q3
    have hul := q1.length
    rw [List.length_take] at q2
    replace N1 : News g L' h ((l0, listOf us0.toArray k0) :: (D0, listOf ws0.toArray 0) :: (news ++ tl)) := N1
    k_steps
    show wpAny _ _ _ _ _ _
    rename_i l3 h31 f31 n31 ll3 D4 h41 lF' lN' ll4
    k_dflt (refine kmk_add_lit lF' lN' (isQ_list lN' (.tail _ (.tail _ (.head _)))) (isQ_list lN' (.head _)) rfl ?_ (by rw [sizeLine_eq]; simp; omega))
    intro Dr hr Fr' Nr lr
    have t0 := hO
    have hN0 : ∀ p ∈ ((D0, listOf ws0.toArray 0) :: (news ++ tl) : Led), p.1 ≠ l0 := by
      intro p hp
      rcases List.mem_cons.mp hp with rfl | hp
      · exact hlD.symm
      · rcases List.mem_append.mp hp with hp | hp
        · exact hne0 p hp
        · exact hO p hp l0 (.head _)
    have hND : ∀ p ∈ (news ++ tl : Led), p.1 ≠ D0 := by
      intro p hp
      rcases List.mem_append.mp hp with hp | hp
      · exact hneD p hp
      · exact hO p hp D0 (.tail _ (.head _))
    have htl : OwnOff tl (news.map (·.1)) := fun p hp b hb => hO p hp b (.tail _ (.tail _ hb))
    have T3 := fun o => Tl.one (news := news) (D := l3) (o := o) (lt_cons ll3.1 (lt_cons ll3.2.1 (lt_of_all ll3.2.2))) (Tl.ne (o := listOf us0.toArray k0) hN0 (Tl.ne (o := listOf ws0.toArray 0) hND (Tl.swap htl)))
    have hpad := fun t => RowIs.pad (k := (24 - (us0.length : Int)).toNat) (t := t) (show RowIs us0 ms0 (min 24 ns.length) from ⟨q1, q2, q3⟩)
    rw [show min 24 ns.length + (24 - (us0.length : Int)).toNat = 24 by omega] at hpad
    exact Ends.gen2 (a := [(Dr, _)]) Fr' Nr (off_one lr) (Tl.one (lt_cons ll4.1 (lt_cons ll4.2.1 (lt_cons ll4.2.2.1 (lt_of_all ll4.2.2.2)))) (T3 _)) (fun tl sub => ⟨Dr, _, _, _, rfl, sub _ (.head _), hpad _⟩)



abbrev Bd (q : Int × Int) : Prop := -(2 ^ 30) < q.1 ∧ q.1 < 2 ^ 30 ∧ 0 < q.2 ∧ q.2 < 2 ^ 30
section
variable {A : Around} {E : Value → Shared → Prop} {s : Shared} {h₀ : Heap} {L l : Addr} {news nx : Led} {us : List Value} {rs : List (Int × Int)} {n : Nat}
theorem item_ex {value slice : PySem.Expr} {k : Int} {u : Tok} {Q : Value → Shared → Prop} (N : News h₀ L s.heap news) (hm : (l, listOf us.toArray n) ∈ news) (hq : IsQs nx us rs) (hs : ∀ p ∈ nx, p ∈ news) (h0 : 0 ≤ k) (hk : k < rs.length) (hz : rs.length < 2 ^ 14) (hb : ∀ x ∈ rs, Bd x)
    (h : ∀ a t u' j n' d', rs[k.toNat]? = some (n', d') → (a, ({ cls := .type "tuple", data := .seq #[.int n' t, .int d' u'] j } : Obj)) ∈ news → (-(2 ^ 30) < n' ∧ n' < 2 ^ 30 ∧ 0 < d' ∧ d' < 2 ^ 30) → Q (.ref a) s)
    (hy : subscripted slice false (.ref l) (.int k u) = operate [.ref l, .int k u] (getItem (.ref l) (.int k u)) := by with_unfolding_all rfl) :
    wpAny (model LP w) A (subscriptTail value slice (.ref l) (.int k u)) Q E s := by
  have hi : k.toNat < rs.length := by omega
  obtain ⟨⟨n', d'⟩, hr⟩ : ∃ r, rs[k.toNat]? = some r := ⟨_, List.getElem?_eq_getElem hi⟩
  obtain ⟨v, hv, hd⟩ := hq.get hr
  obtain ⟨a, t, u', j, rfl, hmem⟩ := hd.out
  exact item_q N hm h0 (by omega) hv (h a t u' j n' d' hr (hs _ hmem) (hb _ (List.mem_of_getElem? hr))) hy
end
abbrev leQ (a b : Int × Int) : Prop := a.1 * b.2 ≤ b.1 * a.2
theorem leQ_trans {a b c : Int × Int} (hb : 0 < b.2) (ha : 0 < a.2) (hc : 0 < c.2) (h1 : leQ a b) (h2 : leQ b c) : leQ a c := by
  have e1 := Int.mul_le_mul_of_nonneg_right h1 (Int.le_of_lt hc)
  have e2 := Int.mul_le_mul_of_nonneg_right h2 (Int.le_of_lt ha)
  have e3 : a.1 * c.2 * b.2 ≤ c.1 * a.2 * b.2 := by
    have x1 : a.1 * b.2 * c.2 = a.1 * c.2 * b.2 := by ac_rfl
    have x2 : b.1 * a.2 * c.2 = b.1 * c.2 * a.2 := by ac_rfl
    have x3 : c.1 * b.2 * a.2 = c.1 * a.2 * b.2 := by ac_rfl
    omega
  exact Int.le_of_mul_le_mul_right e3 hb
theorem isQs_ins {led : Led} {v : Value} {q : Int × Int} (hv : IsQ led v q.1 q.2) : ∀ (i : Nat) {us : List Value} {rs : List (Int × Int)}, IsQs led us rs → IsQs led (us.take i ++ v :: us.drop i) (rs.take i ++ q :: rs.drop i)
  | 0, _, _, h => .cons hv.dat h
  | i + 1, [], [], _ => .cons hv.dat .nil
  | i + 1, [], _ :: _, h => absurd (DatAll.length h) (by simp)
  | i + 1, _ :: _, [], h => absurd (DatAll.length h) (by simp)
  | i + 1, _ :: us, _ :: rs, h => by
    cases h with
    | cons h1 h2 => exact .cons h1 (isQs_ins hv i h2)
theorem ins_perm {α : Type} (q : α) (i : Nat) (rs : List α) : (rs.take i ++ q :: rs.drop i).Perm (rs ++ [q]) := by
  have h1 : (rs.take i ++ q :: rs.drop i).Perm (q :: (rs.take i ++ rs.drop i)) := List.perm_middle
  rw [List.take_append_drop] at h1
  exact h1.trans (by have := List.perm_append_comm (l₁ := [q]) (l₂ := rs); simpa using this)
theorem ins_sorted {q : Int × Int} {i : Nat} {rs : List (Int × Int)} (hs : rs.Pairwise leQ) (h1 : ∀ j, j < i → ∀ x, rs[j]? = some x → leQ x q) (h2 : ∀ j, i ≤ j → ∀ x, rs[j]? = some x → leQ q x) : (rs.take i ++ q :: rs.drop i).Pairwise leQ := by
  have hs' := hs
  rw [← List.take_append_drop i rs, List.pairwise_append] at hs'
  obtain ⟨a, b, c⟩ := hs'
  rw [List.pairwise_append]
  refine ⟨a, List.pairwise_cons.mpr ⟨fun x hx => ?_, b⟩, fun x hx y hy => ?_⟩
  · obtain ⟨j, hj⟩ := List.getElem?_of_mem hx
    rw [List.getElem?_drop] at hj
    exact h2 (i + j) (by omega) x hj
  · rcases List.mem_cons.mp hy with rfl | hy
    · obtain ⟨j, hj⟩ := List.getElem?_of_mem hx
      rw [List.getElem?_take] at hj
      split at hj
      · exact h1 j (by omega) x hj
      · cases hj
    · exact c x hx y hy
theorem ins_le {q : Int × Int} {rs : List (Int × Int)} {at0 : Int} {n' d' : Int} (hs : rs.Pairwise leQ) (hb : ∀ x ∈ rs, Bd x) (hq : 0 < q.2) (h0 : 0 < at0) (hr : rs[(at0 - 1).toNat]? = some (n', d')) (hn : ¬ q.1 * d' < n' * q.2) : ∀ j, j < at0.toNat → ∀ x, rs[j]? = some x → leQ x q := by
  intro j hj x hx
  have hxb := hb x (List.mem_of_getElem? hx)
  have hlast : leQ (n', d') q := Int.not_lt.mp hn
  by_cases e : j = (at0 - 1).toNat
  · rw [e, hr] at hx
    cases hx
    exact hlast
  · have hd' := hb _ (List.mem_of_getElem? hr)
    obtain ⟨l1, g1⟩ := List.getElem?_eq_some_iff.mp hx
    obtain ⟨l2, g2⟩ := List.getElem?_eq_some_iff.mp hr
    have := (List.pairwise_iff_getElem.mp hs) j (at0 - 1).toNat l1 l2 (by omega)
    rw [g1, g2] at this
    exact leQ_trans hd'.2.2.1 hxb.2.2.1 hq this hlast
theorem kl_ins_at {us : List Value} {x : Int} {y : Value} (h0 : 0 ≤ x) (h1 : x ≤ us.length) : kl_ins us.toArray.toList x y = us.take x.toNat ++ y :: us.drop x.toNat := by
  unfold kl_ins
  have a1 : ¬ x < 0 := by omega
  have a2 : min x.toNat us.length = x.toNat := by omega
  simp only [if_neg a1, a2]
theorem insert_q {A : Around} {E : Value → Shared → Prop} {s : Shared} {h₀ : Heap} {L D : Addr} {m : Str → Option Value} {r : Led} {us : List Value} {n : Nat} {x : Int} {u : Tok} {y : Value} {Q : Value → Shared → Prop} (F : Fr h₀ L s.heap m) (N : News h₀ L s.heap ((D, listOf us.toArray n) :: r)) (hne : ∀ p ∈ r, p.1 ≠ D) (h0 : 0 ≤ x) (h1 : x ≤ us.length) (hz : us.length < 2 ^ 14)
    (h : ∀ h', Fr h₀ L h' m → News h₀ L h' ((D, listOf (us.take x.toNat ++ y :: us.drop x.toNat).toArray (n + 1)) :: r) → Q .none { s with heap := h' }) : wpAny (model LP w) A (call (.builtin "list.insert") [.ref D, .int x u, y]) Q E s :=
  kl_insert F N (by simp [Builtin.List.listFitsIndex]; omega) (kl_ins_at h0 h1) (Upd.head hne) (by rw [sizeLine_eq]; simp; omega) h
def RankOut (qs : List (Int × Int)) (nw tl : Led) (r : Value) : Prop :=
  ∃ D c us' rs, r = .ref D ∧ (D, listOf (List.toArray us') c) ∈ tl ∧ IsQs (tl ++ nw) us' rs ∧ rs.Perm qs ∧ rs.Pairwise leQ
local macro_rules | `(tactic| walk_at "exec While BoolOp cons nil") => `(tactic| (refine hold ?_))
local macro_rules | `(tactic| walk_at "exec While") => `(tactic| (refine hold ?_))
local macro_rules | `(tactic| walk_at "subscriptTail") => `(tactic| ((with_reducible show wpAny _ _ (subscriptTail _ _ (Value.ref _) (Value.int _ _)) _ _ _); k_dflt (refine' item_ex ?N ?m ?q ?s ?z ?k ?y ?b ?_ ?w; (case N => k_asm); (case m => k_mem); (case q => assumption); (case s => exact fun p hp => List.mem_cons_of_mem _ hp); (case z => omega); (case k => omega); (case y => omega); (case b => assumption); (case w => with_unfolding_all rfl); k_whole); intro a' t' u' j' n' d' hr' hm' hb'))
set_option maxHeartbeats 8000000 in
theorem law_ranked_con (qs : List (Int × Int)) : Con w p loose mean mg mb 262 12 600 (fun nw vs => ∃ l us n, vs = [.ref l] ∧ (l, listOf us.toArray n) ∈ nw ∧ IsQs nw us qs ∧ (∀ q ∈ qs, Bd q) ∧ qs.length < 64) (RankOut qs) := by
  unfold Con
  intro dp un gd cn cs a ccd cl outer A₀ base h₀ L m news s vs Q E B F X N T hk hR hd hu hret
  obtain ⟨l, us, n, rfl, hm, hq, hs, h64⟩ := hR
  have hT : Touch PySem.Challenge.rw_ov0057_01 KK := by (k_fill; trivial)
  clear hT
  k_with_none
  k_with "pyIter ref" => (refine hold ?_)
  k_dflt (refine' enterC [(Str.ofString "items", .ref l)] B F X N T hk ?k8 hret ?k6 ?k7 ?k9 ?kB ?c2 ?c3 ?c4 ?c5 ?_; (case k8 => omega); (case k6 => k_is); (case k7 => k_is); (case k9 => exact rfl); (case kB => exact rfl); (case c2 => exact rfl); (case c3 => exact rfl); (case c4 => exact rfl); (case c5 => decide))
  clear B F X N T hret Q E hk A₀ m
  intro g L' h' tk' F' N' B' X' T'
  (try dsimp only [List.reverse, List.reverseAux] at F'); (try k_fold)
  k_steps
  show wpAny _ _ _ _ _ _
  rename_i l0 h3 l1 h4 lF' lN'
  have hne0 : ∀ p ∈ news, p.1 ≠ l0 := fun p hp => Nat.ne_of_lt (l1 p hp)
  refine' kd_listL (σ := List Value × List (Int × Int) × Nat) (fun c => [(l0, listOf c.1.toArray c.2.2)]) news (fun _ => []) (fun nx c => IsQs nx c.1 c.2.1) [Str.ofString "at"] (fun pre c => c.2.1.Perm (qs.take pre.length) ∧ c.2.1.Pairwise leQ) (l0 :: news.map (·.1)) ([], [], 0) rfl hm (by rw [List.append_nil]; exact hq) lF' lN' (fun p hp => by simpa using hp) (fun _ => rfl) .nil (fun _ h => nomatch h) ⟨.nil, .nil⟩
      (fun c tl pre d post v u h tk own hE hD hV hS hO hF hP F1 N1 => ?_) (fun c tl u h tk hO hF hP F1 N1 => ?_)
  · clear lF' lN'
    obtain ⟨us0, rs0, k0⟩ := c
    obtain ⟨hP, hPw⟩ := hP
    dsimp only at hF hP hPw
    obtain ⟨q, hq1, rfl, -⟩ := pre_at hE
    obtain ⟨va, t, u1, k, rfl, hm2⟩ := (isQ_of hV).out
    have hN0 : ∀ p ∈ (news ++ (tl ++ own) : Led), p.1 ≠ l0 := by
      intro p hp
      rcases List.mem_append.mp hp with hp | hp
      · exact hne0 p hp
      · exact hO p hp l0 (.head _)
    have hlr : rs0.length = pre.length := by
      have h9 := congrArg List.length hE
      simp only [List.length_map, List.length_append, List.length_cons] at h9
      rw [hP.length_eq, List.length_take]; omega
    have hpl : pre.length < qs.length := (List.getElem?_eq_some_iff.mp hq1).1
    have hul : us0.length = rs0.length := by rw [DatAll.length hF, List.length_map]
    have hbq : Bd q := hs q (List.mem_of_getElem? hq1)
    have hbr : ∀ x ∈ rs0, Bd x := fun x hx => hs x (List.mem_of_mem_take (hP.mem_iff.mp hx))
    have hqa : IsQ (news ++ tl) (.ref va) q.1 q.2 := .mk hm2
    replace hm2 := led_own (c := own) _ hm2
    have hF2 : IsQs (news ++ (tl ++ own)) us0 rs0 := DatAll.mono led_own hF
    replace N1 : News g L' h ((l0, listOf us0.toArray k0) :: (news ++ (tl ++ own))) := N1
    have htk : qs.take (pre ++ [rD q]).length = qs.take pre.length ++ [q] := by rw [List.length_append, List.length_singleton, take_at hq1]
    clear hE hD hV hm
    obtain ⟨qn, qd⟩ := q
    dsimp only [Bd] at hbq hm2
    dsimp only at hqa
    k_steps
    show wpAny _ _ _ _ _ _
    (rename Fr _ _ _ _ => lF'); (rename News _ _ _ _ => lN')
    refine' ksw_while (σ := Int × Tok) (fun _ => (l0, listOf us0.toArray k0) :: (news ++ (tl ++ own))) (fun c => [(Str.ofString "at", .int c.1 c.2)]) (fun _ => True) [] (fun c => 0 ≤ c.1 ∧ c.1 ≤ (rs0.length : Int) ∧ ∀ j : Nat, c.1 ≤ j → ∀ x, rs0[j]? = some x → qn * x.2 < x.1 * qd) (fun c => c.1.toNat) ((us0.length : Int), _) lF' lN' trivial (by intro p hp; rw [List.mem_singleton.mp hp]; rfl) ⟨by omega, by dsimp only; omega, fun j hj x hx => by
        have := (List.getElem?_eq_some_iff.mp hx).1
        dsimp only at hj; omega⟩ (fun c u2 h5 tk5 _ hW F5 N5 => ?_) ?_
    · clear lF' lN'
      obtain ⟨at0, ta⟩ := c
      obtain ⟨w1, w2, w3⟩ := hW
      dsimp only at w1 w2 w3
      k_steps
      · have hr9 := ‹rs0[(at0 - 1).toNat]? = some (_, _)›
        exact ksw_end (at0 - 1, _) (by assumption) (by assumption) (fun p hp => hp) trivial (by intro p hp; rw [List.mem_singleton.mp hp]; rfl) (by intro z h1 h2; have h3 : z ≠ Str.ofString "at" := h1 _ (.head _); simp only [h3, if_false, kstB, List.contains_nil, Bool.false_eq_true]) ⟨by omega, by dsimp only; omega, fun j hj x hx => by
          by_cases e : j = (at0 - 1).toNat
          · subst e
            rw [hr9] at hx
            cases hx
            first | assumption | (simp only [decide_eq_true_eq] at *; assumption)
          · exact w3 j (by dsimp only at hj; omega) x hx⟩ (by dsimp only; omega)
      all_goals (
        (rename News _ _ _ _ => lN'); (rename Fr _ _ _ _ => lF')
        k_dflt (refine insert_q lF' lN' hN0 w1 (by omega) (by omega) ?_)
        intro h9 F9 N9
        clear lN' lF'
        k_steps)
      all_goals (
        have hupd := fun j hj x hx => Int.le_of_lt (w3 j hj x hx)
        refine end_cell (C := l0) (obj := fun c : List Value × List (Int × Int) × Nat => listOf c.1.toArray c.2.2) (us0.take at0.toNat ++ .ref va :: us0.drop at0.toNat, rs0.take at0.toNat ++ (qn, qd) :: rs0.drop at0.toNat, k0 + 1) hS (by assumption) N9 ?_ (isQs_ins hqa _ hF) ⟨?_, ins_sorted hPw ?_ fun j hj x hx => hupd j (by omega) x hx⟩
        · intro z h1 h2
          have h3 : z ≠ Str.ofString "at" := fun e => by rw [e] at h2; exact absurd h2 (by decide)
          simp only [h1, h2, h3, if_false, kstB, List.contains_nil, Bool.false_eq_true]
        · rw [htk]
          exact (ins_perm _ _ _).trans (hP.append_right _))
      · have hr9 := ‹rs0[(at0 - 1).toNat]? = some (_, _)›
        exact ins_le (q := (qn, qd)) hPw hbr hbq.2.2.1 (by assumption) hr9 (by first | assumption | (simp only [decide_eq_false_iff_not] at *; assumption))
      · intro j hj
        exfalso
        have : ¬ (0 < at0) := by assumption
        omega
    · k_steps
  · clear lF' lN'
    obtain ⟨us0, rs0, k0⟩ := c
    obtain ⟨hP, hPw⟩ := hP
    dsimp only at hF hP hPw
    rw [List.length_map, List.take_length] at hP
    k_steps
    dsimp only; k_unfold
    have htl : OwnOff tl (news.map (·.1)) := fun p hp b hb => hO p hp b (.tail _ hb)
    refine Ends.intro ((l0, listOf us0.toArray k0) :: tl) (by assumption) N1 (fun p hp => ?_) (off_cons hne0 htl) ⟨l0, k0, us0, rs0, rfl, .head _, DatAll.mono (fun p hp => ?_) hF, hP, hPw⟩
    · simp only [List.cons_append, List.nil_append, List.mem_cons, List.mem_append] at hp ⊢; grind
    · simp only [List.cons_append, List.mem_cons, List.mem_append] at hp ⊢; grind



section
variable {A : Around} {E : Value → Shared → Prop} {s : Shared} {h₀ : Heap} {L : Addr} {news : Led}
theorem ok_rD (q : Int × Int) (n : Nat) : kqdOk (n + 1) (rD q) = true := by simp [kqdOk]
theorem eqv_same (q : Int × Int) : PyData.eqv (kqdP (rD q)) (kqdP (rD q)) = true := (kqd_eqv 8 (rD q) (rD q) 8 (ok_rD q 7) (ok_rD q 7)).mpr rfl
theorem shaped_rD (q : Int × Int) : SeqAt.shaped (kqdP (rD q)) = true := by
  have l := kqd_lay 8 (rD q) (ok_rD q 7)
  unfold SeqAt.shaped; rw [l.1, Bool.true_and]; exact decide_eq_true (Nat.le_trans l.2 (by decide))
/-- two pairs of one value are not unequal -/
theorem ne_same {a b : Value} {q : Int × Int} {Q : Value → Shared → Prop} (N : News h₀ L s.heap news) (ha : IsQ news a q.1 q.2) (hb : IsQ news b q.1 q.2) (hu : A.units + 64 < cLine) (h : Q (.bool false) s) : wpAny (model LP w) A (compareOp .NotEq a b) Q E s := by
  obtain ⟨as, ra⟩ := kqd_in N 8 ha.dat (ok_rD _ 7)
  obtain ⟨bs, rb⟩ := kqd_in N 8 hb.dat (ok_rD _ 7)
  exact ne_dataH ra rb (shaped_rD _) (shaped_rD _) hu (by rw [eqv_same]; exact h)
theorem ok_rDs (qs : List (Int × Int)) : ∀ d ∈ qs.map rD, kqdOk 8 d = true := by
  intro d hd
  obtain ⟨q, _, rfl⟩ := List.mem_map.mp hd
  exact ok_rD q 7
theorem lne_same {a b : Addr} {xs ys : List Value} {ka kb : Nat} {qs : List (Int × Int)} {Q : Value → Shared → Prop} (N : News h₀ L s.heap news) (ma : (a, listOf xs.toArray ka) ∈ news) (mb : (b, listOf ys.toArray kb) ∈ news) (ha : IsQs news xs qs) (hb : IsQs news ys qs) (hu : A.units + 64 < cLine) (h : Q (.bool false) s) : wpAny (model LP w) A (compareOp .NotEq (.ref a) (.ref b)) Q E s :=
  kqd_ne N ma rfl rfl ha (fun _ h => h) mb rfl rfl hb (fun _ h => h) (ok_rDs qs) (ok_rDs qs) hu (by simpa using h)
theorem leq_same {a b : Addr} {xs ys : List Value} {ka kb : Nat} {qs : List (Int × Int)} {Q : Value → Shared → Prop} (N : News h₀ L s.heap news) (ma : (a, listOf xs.toArray ka) ∈ news) (mb : (b, listOf ys.toArray kb) ∈ news) (ha : IsQs news xs qs) (hb : IsQs news ys qs) (hu : A.units + 64 < cLine) (h : Q (.bool true) s) : wpAny (model LP w) A (compareOp .Eq (.ref a) (.ref b)) Q E s :=
  kqd_eq N ma rfl rfl ha (fun _ h => h) mb rfl rfl hb (fun _ h => h) (ok_rDs qs) (ok_rDs qs) hu (by simpa using h)
end
/-- the table is filled -/
def HitNw (nw : Led) : Prop := ∃ ps rest, (∀ q ∈ (196, tabObj ps) :: rest, q ∈ nw) ∧ (∀ q ∈ rest, q.1 ≠ 196) ∧ (∀ q ∈ nw, q ∈ rest ∨ q = (196, tabObj ps)) ∧ HitA ps rest
theorem HitNw.grow {tl nw : Led} (h : HitNw nw) (off : OwnOff tl (nw.map (·.1))) : HitNw (tl ++ nw) := by
  obtain ⟨ps, rest, a, b, c, d⟩ := h
  refine ⟨ps, tl ++ rest, sp_app a, fun q hq => ?_, fun q hq => ?_, d.mono fun p hp => List.mem_append.mpr (.inr hp)⟩
  · rcases List.mem_append.mp hq with hq | hq
    · exact off q hq 196 (List.mem_map.mpr ⟨_, a _ (.head _), rfl⟩)
    · exact b q hq
  · rcases List.mem_append.mp hq with hq | hq
    · exact .inl (List.mem_append.mpr (.inl hq))
    · exact (c q hq).imp (fun h => List.mem_append.mpr (.inr h)) id
theorem HitNw.cons {D : Addr} {o : Obj} {nw : Led} (h : HitNw nw) (l : ∀ p ∈ nw, p.1 < D) : HitNw ((D, o) :: nw) := HitNw.grow (tl := [(D, o)]) h (off_one l)
theorem HitNw.of {tl rest : Led} {ps : Array Value} (hne : ∀ q ∈ rest, q.1 ≠ 196) (off : OwnOff tl (196 :: rest.map (·.1))) (hh : HitA ps (tl ++ rest)) : HitNw (tl ++ (196, tabObj ps) :: rest) := by
  refine ⟨ps, tl ++ rest, sp_app sp_here, fun q hq => ?_, fun q hq => ?_, hh⟩
  · rcases List.mem_append.mp hq with hq | hq
    · exact off q hq 196 (.head _)
    · exact hne q hq
  · rcases List.mem_append.mp hq with hq | hq
    · exact .inl (List.mem_append.mpr (.inl hq))
    · rcases List.mem_cons.mp hq with rfl | hq
      · exact .inr rfl
      · exact .inl (List.mem_append.mpr (.inr hq))
theorem law_of_hit (us : List Value) (qs ss : List (Int × Int)) (f : List (Int × Int) → Int × Int → Int × Int) : Con w p loose mean mg mb 248 40 2000 (fun nw vs => HitNw nw ∧ ∃ l n l2 us2 n2, vs = [.ref l, .ref l2] ∧ (l, listOf us.toArray n) ∈ nw ∧ IsQs nw us qs ∧ (l2, listOf us2.toArray n2) ∈ nw ∧ IsQs nw us2 ss ∧ Den qs ∧ 0 < qs.length ∧ qs.length < 64 ∧ ss.length < 64 ∧ QsFit qs ss f) (QsOut qs ss f) := by
  refine (law_of_con us qs ss f).hit _ _ ?_
  rintro nw vs ⟨⟨ps, rest, a, b, c, d⟩, l, n, l2, us2, n2, rfl, hm, hq, hm2, hq2, h⟩
  have keep : ∀ p ∈ nw, p.2.cls ≠ .none → p ∈ rest := fun p hp hc => (c p hp).elim id fun e => absurd (by rw [e]) hc
  refine ⟨ps, rest, a, b, fun q hq => (c q hq).imp id fun e => by rw [e], d, ⟨l, n, l2, us2, n2, rfl, keep _ hm (by simp), hq.keep (fun p hp e => keep p hp (by rw [e]; simp)), keep _ hm2 (by simp), hq2.keep (fun p hp e => keep p hp (by rw [e]; simp)), h⟩, ?_⟩
  rintro tl r ⟨rs, D, cc, ys, o1, o2, o3, o4, o5⟩
  exact ⟨rs, D, cc, ys, o1, o2, o3, o4, DatAll.mono (fun p hp => by
    rcases List.mem_append.mp hp with hp | hp
    · exact List.mem_append.mpr (.inl hp)
    · exact List.mem_append.mpr (.inr (a p (.tail _ hp)))) o5⟩
theorem median_hit (qs : List (Int × Int)) (fm : List (Int × Int) → Int × Int) : Con w p loose mean mg mb 215 40 2000 (fun nw vs => HitNw nw ∧ ∃ v l us n, vs = [v] ∧ VecAt w nw l v ∧ (l, listOf us.toArray n) ∈ nw ∧ IsQs nw us qs ∧ Den qs ∧ 0 < qs.length ∧ qs.length < 64 ∧ ∀ rs, rs.Perm qs → rs.Pairwise (fun a b => a.1 * b.2 ≤ b.1 * a.2) → MedFit rs (fm rs)) (MedOut w qs fm) := by
  refine (median_of_con qs fm).hit _ _ ?_
  rintro nw vs ⟨⟨ps, rest, a, b, c, d⟩, v, l, us, n, rfl, hv, hm, hq, h⟩
  have keep : ∀ p ∈ nw, p.2.cls ≠ .none → p ∈ rest := fun p hp hc => (c p hp).elim id fun e => absurd (by rw [e]) hc
  obtain ⟨xv, dv, t0, t1, t2, t3, t4, t5, nv, rfl, hx, hdv⟩ := hv.out
  refine ⟨ps, rest, a, b, fun q hq => (c q hq).imp id fun e => by rw [e], d, ⟨.ref xv, l, us, n, rfl, .mk (keep _ hx (by simp)) (keep _ hdv (by simp)), keep _ hm (by simp), hq.keep (fun p hp e => keep p hp (by rw [e]; simp)), h⟩, ?_⟩
  rintro tl r ⟨rs, lr, cc, v', o1, o2, o3, o4, o5⟩
  exact ⟨rs, lr, cc, v', o1, o2, o3, o4, o5.mono (fun p hp => by
    rcases List.mem_append.mp hp with hp | hp
    · exact List.mem_append.mpr (.inl hp)
    · exact List.mem_append.mpr (.inr (a p (.tail _ hp))))⟩



structure FnLit where
  oc : Value
  od : Option Addr
  name : Str
  qual : Str
  params : Arguments
  body : List Stmt
  scope : Scope
  dV : Value
  kV : Value
  doc : Value
  pm : Value
  an : Option Addr
  cdv : Value
  ct : Value
  osl : Array (Option Value)
noncomputable def lawLit (w : World) : { x : FnLit // (KK w.params).lookup 267 = some ⟨x.oc, x.od, .func (fnOf x.name x.qual x.params x.body x.scope x.dV x.kV x.doc x.pm x.an x.cdv x.ct), x.osl⟩ } := by
  have hT : Touch PySem.Challenge.rw_ov0057_01 KK := by (k_fill; trivial)
  exact ⟨⟨_, _, _, _, _, _, _, _, _, _, _, _, _, _, _⟩, by k_is⟩
/-- the law's own frame -/
noncomputable abbrev lawEnv (w : World) (L fa : Addr) (cd : Value) : Env := envX (lawLit w).val.qual (lawLit w).val.scope L fa cd (cellsFrom (L + 1) (lawLit w).val.scope.names [])
section
variable {A : Around} {E : Value → Shared → Prop} {s : Shared} {h₀ : Heap} {L l : Addr} {news : Led} {us : List Value} {ms : List Int} {n : Nat}
theorem row_q {value slice : PySem.Expr} {k : Int} {u : Tok} {Q : Value → Shared → Prop} (N : News h₀ L s.heap news) (hm : (l, listOf us.toArray n) ∈ news) (hR : RowIs us ms 24) (h0 : 0 ≤ k) (hk : k < 24)
    (h : ∀ t, 0 ≤ ms.getD k.toNat 0 ∧ ms.getD k.toNat 0 < 1000 → Q (.int (ms.getD k.toNat 0) t) s) (hy : subscripted slice false (.ref l) (.int k u) = operate [.ref l, .int k u] (getItem (.ref l) (.int k u)) := by with_unfolding_all rfl) :
    wpAny (model LP w) A (subscriptTail value slice (.ref l) (.int k u)) Q E s := by
  obtain ⟨a, b, c⟩ := hR
  have hi : k.toNat < us.length := by rw [a.length, b]; omega
  obtain ⟨t, ht⟩ := a.int_at k.toNat _ (List.getElem?_eq_getElem hi)
  refine item_q N hm h0 (by omega) (List.getElem?_eq_getElem hi) ?_ hy
  rw [ht]
  refine h t (c _ ?_)
  have hi2 : k.toNat < ms.length := by omega
  rw [List.getD_eq_getElem?_getD, List.getElem?_eq_getElem hi2]
  exact List.getElem_mem hi2
theorem three_q {value slice : PySem.Expr} {k : Int} {u a b c : Tok} {Q : Value → Shared → Prop} (N : News h₀ L s.heap news) (hm : (l, listOf #[.int 1 a, .int 2 b, .int 3 c] n) ∈ news) (h0 : 0 ≤ k) (hk : k < 3)
    (h : ∀ t, Q (.int (k + 1) t) s) (hy : subscripted slice false (.ref l) (.int k u) = operate [.ref l, .int k u] (getItem (.ref l) (.int k u)) := by with_unfolding_all rfl) :
    wpAny (model LP w) A (subscriptTail value slice (.ref l) (.int k u)) Q E s := by
  have hk3 : k = 0 ∨ k = 1 ∨ k = 2 := by omega
  rcases hk3 with rfl | rfl | rfl
  · exact item_q (us := [.int 1 a, .int 2 b, .int 3 c]) N hm h0 (by omega) rfl (h a) hy
  · exact item_q (us := [.int 1 a, .int 2 b, .int 3 c]) N hm h0 (by omega) rfl (h b) hy
  · exact item_q (us := [.int 1 a, .int 2 b, .int 3 c]) N hm h0 (by omega) rfl (h c) hy
end
local macro_rules | `(tactic| walk_at "subscriptTail") => `(tactic| ((with_reducible show wpAny _ _ (subscriptTail _ _ (Value.ref _) (Value.int _ _)) _ _ _); k_dflt (refine' row_q ?N ?m ?r ?z ?k ?_ ?y; (case N => k_asm); (case m => k_mem); (case r => assumption); (case z => omega); (case k => omega); (case y => with_unfolding_all rfl); k_whole); intro t' hb'))
local macro_rules | `(tactic| walk_at "subscriptTail") => `(tactic| ((with_reducible show wpAny _ _ (subscriptTail _ _ (Value.ref _) (Value.int _ _)) _ _ _); k_dflt (refine' three_q ?N ?m ?z ?k ?_ ?y; (case N => k_asm); (case m => k_mem); (case z => omega); (case k => omega); (case y => with_unfolding_all rfl); k_whole); intro t'))
local macro_rules | `(tactic| walk_at "call ref") => `(tactic| ((with_reducible show wpAny _ _ (call (Value.ref 241) _) _ _ _); refine hold ?_))
local macro_rules | `(tactic| walk_at "call ref") => `(tactic| ((with_reducible show wpAny _ _ (call (Value.ref 262) _) _ _ _); refine hold ?_))
local macro_rules | `(tactic| walk_at "call ref") => `(tactic| ((with_reducible show wpAny _ _ (call (Value.ref 248) _) _ _ _); refine hold ?_))
local macro_rules | `(tactic| walk_at "call ref") => `(tactic| ((with_reducible show wpAny _ _ (call (Value.ref 215) _) _ _ _); refine hold ?_))
local macro_rules | `(tactic| walk_at "CompSrc") => `(tactic| (refine hold ?_))


theorem abs_led {G : Prop} {led : Led} (P : Led → Prop) (h : P led) (k : ∀ led, P led → G) : G := k led h
/-- what the law's frame holds once found stands -/
structure LawV where
  lI : Addr
  lS : Addr
  lF : Addr
  lR : Addr
  usI : List Value
  usS : List Value
  usF : List Value
  usR : List Value
  cI : Nat
  cS : Nat
  cF : Nat
  cR : Nat
  qs : List (Int × Int)
  ss : List (Int × Int)
  fo : List (Int × Int)
  rk : List (Int × Int)
  many : Nat
  mt : Tok
def LSt (h₀ : Heap) (L : Addr) (v : LawV) (h : Heap) (led : Led) : Prop :=
  News h₀ L h led ∧ HitNw led ∧ ((v.lI, listOf v.usI.toArray v.cI) ∈ led ∧ IsQs led v.usI v.qs) ∧ ((v.lS, listOf v.usS.toArray v.cS) ∈ led ∧ IsQs led v.usS v.ss) ∧ ((v.lF, listOf v.usF.toArray v.cF) ∈ led ∧ IsQs led v.usF v.fo) ∧ ((v.lR, listOf v.usR.toArray v.cR) ∈ led ∧ IsQs led v.usR v.rk)
theorem LSt.mono {h₀ : Heap} {L : Addr} {v : LawV} {h h' : Heap} {led led' : Led} (x : LSt h₀ L v h led) (N : News h₀ L h' led') (hh : HitNw led') (s : ∀ p ∈ led, p ∈ led') : LSt h₀ L v h' led' :=
  ⟨N, hh, ⟨s _ x.2.2.1.1, x.2.2.1.2.mono s⟩, ⟨s _ x.2.2.2.1.1, x.2.2.2.1.2.mono s⟩, ⟨s _ x.2.2.2.2.1.1, x.2.2.2.2.1.2.mono s⟩, s _ x.2.2.2.2.2.1, x.2.2.2.2.2.2.mono s⟩
def LVar (v : LawV) (m : Str → Option Value) : Prop :=
  m (Str.ofString "items") = some (.ref v.lI) ∧ m (Str.ofString "shares") = some (.ref v.lS) ∧ m (Str.ofString "found") = some (.ref v.lF) ∧ m (Str.ofString "ranked") = some (.ref v.lR) ∧ m (Str.ofString "many") = some (.int (v.many : Int) v.mt)
/-- what the law's caller asks at its end -/
def LEnd (h₀ : Heap) (L : Addr) (s : Shared) (Q : Flow → Shared → Prop) : Prop :=
  ∀ h' tk' m' all, Fr h₀ L h' m' → News h₀ L h' all → HitNw all → Q (.ret (.bool true)) { s with heap := h', toks := tk' }
theorem own_one {D : Addr} {o : Obj} {led : Led} (off : LCg.Off1 D led) : OwnOff [(D, o)] (led.map (·.1)) := by
  intro p hp b hb
  rw [List.mem_singleton.mp hp]
  obtain ⟨q, hq, rfl⟩ := List.mem_map.mp hb
  exact fun e => off1_mem off q hq e.symm
def movQ (q : Int × Int) : Int × Int := lowQ (3 * q.1 + 5 * q.2) q.2
abbrev SmL (q : Int × Int) : Prop := -(2 ^ 24) < q.1 ∧ q.1 < 2 ^ 24 ∧ 0 < q.2 ∧ q.2 < 2 ^ 24
/-- the numbers at the law's last step -/
def Num15 (f : List (Int × Int) → Int × Int → Int × Int) (v : LawV) : Prop :=
  (∀ q ∈ v.qs, SmL q) ∧ (∀ q ∈ v.fo, SmL q) ∧ Den (v.qs.map movQ) ∧ 0 < v.qs.length ∧ v.qs.length < 64 ∧ v.ss.length < 64 ∧ v.fo.length < 64 ∧ QsFit (v.qs.map movQ) v.ss f ∧ ∀ rs, rs.Perm (v.qs.map movQ) → rs.Pairwise (fun a b => a.1 * b.2 ≤ b.1 * a.2) → v.ss.map (f rs) = v.fo.map movQ
theorem map_at {α β : Type} {g : α → β} {l : List α} {i : Nat} {y : β} (h : (l.map g)[i]? = some y) : ∃ x, l[i]? = some x ∧ g x = y := by
  rw [List.getElem?_map] at h
  exact Option.map_eq_some_iff.mp h
theorem comp_src {A : Around} {h₀ : Heap} {L : Addr} {m : Str → Option Value} {env : Env} {elt : PySem.Expr} {x : Str} {scope : Scope} {cl : List (Str × Addr)} {s : Shared} {Fin : Shared → List Value → Led → Prop} {led : Led} {l : Addr} {us : List Value} {c : Nat} {qs : List (Int × Int)} (g : Int × Int → Int × Int)
    (hh : A.handled = none) (F : Fr h₀ L s.heap m) (N : News h₀ L s.heap led) (hm : (l, listOf us.toArray c) ∈ led) (hq : IsQs led us qs) (hz : qs.length < 2 ^ 14)
    (turn : ∀ (q : Int × Int) va vt vu vk (bs : Led) I oI C oC D m₂ ys h tk gg (E' : Value → Shared → Prop), q ∈ qs → (va, ({ cls := .type "tuple", data := .seq #[.int q.1 vt, .int q.2 vu] vk } : Obj)) ∈ bs → LCg.NsObj oC m₂ → m₂ x = some (.ref va) → Fr h₀ L h m → News h₀ L h ((I, oI) :: (C, oC) :: (D, LCg.lst ys) :: bs) → LCg.Off3 I C D bs → ((@Ne Nat I C) ∧ (@Ne Nat I D) ∧ (@Ne Nat C D)) →
      wpAny (model LP w) A (eval elt (compEnvC scope cl C env)) (TurnEnd h₀ L m { ({ s with heap := gg } : Shared) with heap := h, toks := tk } [(I, oI), (C, oC), (D, LCg.lst ys)] bs (g q)) E' { ({ s with heap := gg } : Shared) with heap := h, toks := tk })
    (fin : ∀ gg ys tl, OwnOff tl (led.map (·.1)) → IsQs (tl ++ led) ys (qs.map g) → Fin { s with heap := gg } ys (tl ++ led)) :
    LCg.CompSrc LP w A h₀ L m env elt x scope cl Fin (.ref l) s := by
  have hul : us.length = qs.length := by rw [DatAll.length hq, List.length_map]
  refine LCg.CompSrc.ledger hh F N hm (by rw [sizeLine_eq]; simp; omega) fun gg => ?_
  refine comp_q (qs.map g) led (by simp [hul]) (fun tl => .inr ⟨_, List.mem_append.mpr (.inr hm), rfl, _, rfl⟩) (fun i v gq tl I oI C oC D m₂ ys h tk E' hg hv hCo hx Fc Nc off ne ht => ?_) (fin gg)
  obtain ⟨q, hqi, rfl⟩ := map_at hg
  obtain ⟨v', hv', hd⟩ := hq.get hqi
  have hv2 : us[i]? = some v := by simpa using hv
  rw [hv2] at hv'
  obtain rfl : v = v' := Option.some.inj hv'
  obtain ⟨va, vt, vu, vk, rfl, hvm⟩ := hd.out
  exact turn q va vt vu vk (tl ++ led) I oI C oC D m₂ ys h tk gg E' (List.mem_of_getElem? hqi) (List.mem_append.mpr (.inr hvm)) hCo hx Fc Nc off ne
local macro_rules | `(tactic| walk_at "eval Name") => `(tactic| ((with_reducible show wpAny _ _ (eval (PySem.Expr.Name _ _) (envX _ _ _ _ _ _)) _ _ _); k_dflt (refine nameX_L (by k_asm) (by first | exact rfl | ((try simp only [kstB]); (try dsimp only); (repeat (rw [if_neg (by decide)])); with_reducible first | assumption | exact if_pos rfl)) ?_); k_whole))
local macro_rules | `(tactic| walk_at "eval ListComp") => `(tactic| (k_dflt (refine LCg.ListComp_U (F₀ := by k_asm) (by with_unfolding_all rfl) (by decide) (by rfl) (by decide) (by rfl) ?_)))
local macro_rules | `(tactic| walk_at "exec Assign cons ListComp") => `(tactic| (k_dflt (refine LCg.Assign_ListComp_U (F₀ := by k_asm) (by rfl) (by with_unfolding_all rfl) (by with_unfolding_all rfl) (by decide) (by rfl) (by decide) (by rfl) (by rfl) (by rfl) ?_)))
set_option maxHeartbeats 8000000 in
theorem law_s15 (f : List (Int × Int) → Int × Int → Int × Int) (v : LawV) (num : Num15 f v) {fa : Addr} {cd : Value} {dp un : Nat} {gd : Option (List Code)} {outer : List Env} {A₀ : Around} {base h₀ : Heap} {L : Addr} {s : Shared} {m : Str → Option Value} {led : Led} {Q : Flow → Shared → Prop} {E : Value → Shared → Prop}
    (B : Below A₀ base outer h₀) (F : Fr h₀ L s.heap m) (X : (KK w.params).In h₀) (T : Top p loose mean mg mb h₀) (st : LSt h₀ L v s.heap led) (hv : LVar v m) (hd : dp + 100 < recursionLimit) (hu : un + 4000 < cLine) (hQ : LEnd h₀ L s Q) :
    wpAny (model LP w) (ktrTop dp un gd (lawLit w).val.qual (lawLit w).val.scope L fa cd (cellsFrom (L + 1) (lawLit w).val.scope.names []) outer) (execs ((lawLit w).val.body.drop 15) (lawEnv w L fa cd)) Q E s := by
  have hT : Touch PySem.Challenge.rw_ov0057_01 KK := by (k_fill; trivial)
  clear hT
  k_with "pyIter ref" => (refine hold ?_)
  obtain ⟨lI, lS, lF, lR, usI, usS, usF, usR, cI, cS, cF, cR, qs, ss, fo, rk, many, mt⟩ := v
  obtain ⟨N, hh, ⟨mI, qI⟩, ⟨mS, qS⟩, ⟨mF, qF⟩, mR, qR⟩ := st
  obtain ⟨v1, v2, v3, v4, v5⟩ := hv
  obtain ⟨n1, n2, n3, n4, n5, n6, n7, n8, n9⟩ := num
  dsimp only at *
  dsimp only [lawLit, lawEnv, List.drop]
  (try k_fold)
  k_steps
  show LCg.CompSrc _ _ _ _ _ _ _ _ _ _ _ _ _ _
  (rename Fr _ _ _ _ => lF'); (rename News _ _ _ _ => lN')
  refine comp_src movQ rfl lF' lN' mI qI (by omega) ?turn ?fin
  case turn =>
    intro q va vt vu vk bs I oI C oC Dc m₂ ys hc tkc gg Ec hq hvm hCo hx2 Fc Nc off ne
    have hbq := n1 q hq
    clear lF' lN'
    dsimp only [SmL] at hbq
    k_steps
    exact TurnEnd.intro _ (by assumption) (by assumption) (by assumption) (IsQ.mk2 (List.mem_append.mpr (.inl (by assumption))) rfl rfl)
  case fin =>
    intro gg ys tlc ht hys
    intro Df hf tkf Ff Nf off
    dsimp only
    have o1 := off1_mem off
    refine abs_led (fun led => News h₀ L hf led ∧ HitNw led ∧ ((lS, listOf usS.toArray cS) ∈ led ∧ IsQs led usS ss) ∧ ((lF, listOf usF.toArray cF) ∈ led ∧ IsQs led usF fo) ∧ ∃ cM, (Df, listOf ys.toArray cM) ∈ led ∧ IsQs led ys (qs.map movQ)) ⟨Nf, HitNw.grow (tl := [(Df, _)]) (hh.grow ht) ?_, ?_, ?_, ys.length, .head _, DatAll.mono (fun p hp => .tail _ hp) hys⟩ ?_
    · intro p hp b hb
      rw [List.mem_singleton.mp hp]
      obtain ⟨q, hq, rfl⟩ := List.mem_map.mp hb
      exact fun e => o1 q hq e.symm
    · exact ⟨.tail _ (List.mem_append.mpr (.inr mS)), DatAll.mono (fun p hp => .tail _ (List.mem_append.mpr (.inr hp))) qS⟩
    · exact ⟨.tail _ (List.mem_append.mpr (.inr mF)), DatAll.mono (fun p hp => .tail _ (List.mem_append.mpr (.inr hp))) qF⟩
    clear Nf o1 off ht hys lF' lN' mI qI mR qR mS qS mF qF hh led
    intro led ⟨lN', hh, ⟨mS, qS⟩, ⟨mF, qF⟩, cM, mM, qM⟩
    k_steps
    show wpAny _ _ _ _ _ _
    (rename Fr _ _ _ _ => lF'); (rename News _ _ _ _ => lN')
    k_dflt (refine Con.use (law_of_hit ys (qs.map movQ) ss f) B lF' X lN' T rfl ⟨hh, Df, cM, lS, usS, cS, rfl, mM, qM, mS, qS, n3, by simpa using n4, by simpa using n5, n6, n8⟩ (by omega) (by omega) ?_)
    intro r2 tl2 h2 tk2 F2 N2 off2 out2
    obtain ⟨rs, D2, c2, ys2, hperm, hpw, rfl, hD2, hys2⟩ := out2
    rw [n9 rs hperm hpw] at hys2
    refine abs_led (fun led => News h₀ L h2 led ∧ HitNw led ∧ ((lF, listOf usF.toArray cF) ∈ led ∧ IsQs led usF fo) ∧ ((D2, listOf ys2.toArray c2) ∈ led ∧ IsQs led ys2 (fo.map movQ))) ⟨N2, hh.grow off2, ⟨List.mem_append.mpr (.inr mF), DatAll.mono (fun p hp => List.mem_append.mpr (.inr hp)) qF⟩, List.mem_append.mpr (.inl hD2), hys2⟩ ?_
    clear N2 off2 lF' lN' mS qS mF qF mM qM hh led hys2 hD2
    intro led ⟨lN', hh, ⟨mF, qF⟩, mD, qD⟩
    k_steps
    show LCg.CompSrc _ _ _ _ _ _ _ _ _ _ _ _ _ _
    (rename Fr _ _ _ _ => lF'); (rename News _ _ _ _ => lN')
    refine comp_src movQ rfl lF' lN' mF qF (by omega) ?turn2 ?fin2
    case turn2 =>
      intro q va vt vu vk bs I oI C oC Dc m₂ ys hc tkc gg Ec hq hvm hCo hx2 Fc Nc off ne
      have hbq := n2 q hq
      clear lF' lN'
      dsimp only [SmL] at hbq
      k_steps
      exact TurnEnd.intro _ (by assumption) (by assumption) (by assumption) (IsQ.mk2 (List.mem_append.mpr (.inl (by assumption))) rfl rfl)
    case fin2 =>
      intro gg3 ys3 tl3 ht3 hys3
      intro Df3 hf3 tkf3 Ff3 Nf3 off3
      dsimp only
      k_dflt (refine leq_same Nf3 (.tail _ (List.mem_append.mpr (.inr mD))) (.head _) (DatAll.mono (fun p hp => .tail _ (List.mem_append.mpr (.inr hp))) qD) (DatAll.mono (fun p hp => .tail _ hp) hys3) (by show un + 64 < cLine; omega) ?_)
      k_steps
      exact hQ _ _ _ _ Ff3 Nf3 (HitNw.grow (tl := [(Df3, _)]) (hh.grow ht3) (own_one off3))
local macro_rules | `(tactic| walk_at "eval Name") => `(tactic| ((with_reducible show wpAny _ _ (eval (PySem.Expr.Name _ _) (envX _ _ _ _ _ _)) _ _ _); k_dflt (refine nameX_L (by k_asm) (by first | exact rfl | ((try simp only [kstB]); (try dsimp only); (repeat (rw [if_neg (by decide)])); with_reducible first | assumption | exact if_pos rfl)) ?_); k_whole))
local macro_rules | `(tactic| walk_at "eval ListComp") => `(tactic| (k_dflt (refine LCg.ListComp_U (F₀ := by k_asm) (by with_unfolding_all rfl) (by decide) (by rfl) (by decide) (by rfl) ?_)))
local macro_rules | `(tactic| walk_at "exec Assign cons ListComp") => `(tactic| (k_dflt (refine LCg.Assign_ListComp_U (F₀ := by k_asm) (by rfl) (by with_unfolding_all rfl) (by with_unfolding_all rfl) (by decide) (by rfl) (by decide) (by rfl) (by rfl) (by rfl) ?_)))


def negQ (q : Int × Int) : Int × Int := (0 - q.1, q.2)
def awayQ (q : Int × Int) : Int × Int := lowQ (q.2 - q.1) q.2
def Num12 (f : List (Int × Int) → Int × Int → Int × Int) (v : LawV) : Prop :=
  (∀ q ∈ v.qs, SmL q) ∧ (∀ q ∈ v.fo, SmL q) ∧ (∀ q ∈ v.ss, SmL q) ∧ Den (v.qs.map negQ) ∧ 0 < v.qs.length ∧ v.qs.length < 64 ∧ v.ss.length < 64 ∧ v.fo.length < 64 ∧ QsFit (v.qs.map negQ) (v.ss.map awayQ) f ∧ ∀ rs, rs.Perm (v.qs.map negQ) → rs.Pairwise (fun a b => a.1 * b.2 ≤ b.1 * a.2) → (v.ss.map awayQ).map (f rs) = v.fo.map negQ
local macro_rules | `(tactic| walk_at "execs cons") => `(tactic| ((with_reducible show wpAny _ _ (execs (PySem.Stmt.Assign [PySem.Expr.Name (PySem.Str.ofString "moved") _] _ _ :: _) _) _ _ _); refine hold ?_))
set_option maxHeartbeats 8000000 in
theorem law_s12 (f : List (Int × Int) → Int × Int → Int × Int) (v : LawV) (num : Num12 f v) (num15 : Num15 f v) {fa : Addr} {cd : Value} {dp un : Nat} {gd : Option (List Code)} {outer : List Env} {A₀ : Around} {base h₀ : Heap} {L : Addr} {s : Shared} {m : Str → Option Value} {led : Led} {Q : Flow → Shared → Prop} {E : Value → Shared → Prop}
    (B : Below A₀ base outer h₀) (F : Fr h₀ L s.heap m) (X : (KK w.params).In h₀) (T : Top p loose mean mg mb h₀) (st : LSt h₀ L v s.heap led) (hv : LVar v m) (hd : dp + 100 < recursionLimit) (hu : un + 4000 < cLine) (hQ : LEnd h₀ L s Q) :
    wpAny (model LP w) (ktrTop dp un gd (lawLit w).val.qual (lawLit w).val.scope L fa cd (cellsFrom (L + 1) (lawLit w).val.scope.names []) outer) (execs ((lawLit w).val.body.drop 12) (lawEnv w L fa cd)) Q E s := by
  have hT : Touch PySem.Challenge.rw_ov0057_01 KK := by (k_fill; trivial)
  clear hT
  k_with "pyIter ref" => (refine hold ?_)
  obtain ⟨lI, lS, lF, lR, usI, usS, usF, usR, cI, cS, cF, cR, qs, ss, fo, rk, many, mt⟩ := v
  have st0 := st
  have hv0 := hv
  obtain ⟨N, hh, ⟨mI, qI⟩, ⟨mS, qS⟩, ⟨mF, qF⟩, mR, qR⟩ := st
  obtain ⟨v1, v2, v3, v4, v5⟩ := hv
  obtain ⟨n1, n2, n3, n4, n5, n6, n7, n8, n9, n10⟩ := num
  dsimp only at n1 n2 n3 n4 n5 n6 n7 n8 n9 n10 N mI qI mS qS mF qF mR qR v1 v2 v3 v4 v5
  dsimp only [lawLit, lawEnv, List.drop]
  (try k_fold)
  k_steps
  show LCg.CompSrc _ _ _ _ _ _ _ _ _ _ _ _ _ _
  (rename Fr _ _ _ _ => lF'); (rename News _ _ _ _ => lN')
  refine comp_src negQ rfl lF' lN' mI qI (by omega) ?turn ?fin
  case turn =>
    intro q va vt vu vk bs I oI C oC Dc m₂ ys hc tkc gg Ec hq hvm hCo hx2 Fc Nc off ne
    have hbq := n1 q hq
    clear lF' lN' st0
    dsimp only [SmL] at hbq
    k_steps
    have hl := ‹_ ∧ _ ∧ _ ∧ AllLt _ bs›
    exact TurnEnd.intro [(_, _)] (by assumption) (by assumption) (off_one (lt_cons hl.1 (lt_cons hl.2.1 (lt_cons hl.2.2.1 (lt_of_all hl.2.2.2))))) (IsQ.mk (.head _))
  case fin =>
    intro gg ys tlc ht hys
    intro Df hf tkf Ff Nf off
    dsimp only
    refine abs_led (fun led => LSt h₀ L _ hf led ∧ ∃ cM, (Df, listOf ys.toArray cM) ∈ led ∧ IsQs led ys (qs.map negQ)) ⟨st0.mono Nf (HitNw.grow (tl := [(Df, _)]) (hh.grow ht) (own_one off)) (fun p hp => .tail _ (List.mem_append.mpr (.inr hp))), ys.length, .head _, DatAll.mono (fun p hp => .tail _ hp) hys⟩ ?_
    clear Nf off ht hys lF' lN' mI qI mR qR mS qS mF qF hh st0 led
    intro led ⟨st0, cM, mM, qM⟩
    have st1 := st0
    obtain ⟨lN', hh, -, ⟨mS, qS⟩, ⟨mF, qF⟩, -⟩ := st1
    dsimp only at lN' mS qS mF qF
    k_steps
    show LCg.CompSrc _ _ _ _ _ _ _ _ _ _ _ _ _ _
    (rename Fr _ _ _ _ => lF'); (rename News _ _ _ _ => lN')
    refine comp_src awayQ rfl lF' lN' mS qS (by omega) ?turn2 ?fin2
    case turn2 =>
      intro q va vt vu vk bs I oI C oC Dc m₂ ys hc tkc gg Ec hq hvm hCo hx2 Fc Nc off ne
      have hbq := n3 q hq
      clear lF' lN' st0
      dsimp only [SmL] at hbq
      k_steps
      exact TurnEnd.intro _ (by assumption) (by assumption) (by assumption) (IsQ.mk2 (List.mem_append.mpr (.inl (by assumption))) rfl rfl)
    case fin2 =>
      intro gg ys4 tlc ht hys
      intro Da hf2 tkf Ff2 Nf off
      dsimp only
      refine abs_led (fun led => LSt h₀ L _ hf2 led ∧ (∃ cM, (Df, listOf ys.toArray cM) ∈ led ∧ IsQs led ys (qs.map negQ)) ∧ ∃ cA, (Da, listOf ys4.toArray cA) ∈ led ∧ IsQs led ys4 (ss.map awayQ)) ⟨st0.mono Nf (HitNw.grow (tl := [(Da, _)]) (hh.grow ht) (own_one off)) (fun p hp => .tail _ (List.mem_append.mpr (.inr hp))), ⟨cM, .tail _ (List.mem_append.mpr (.inr mM)), DatAll.mono (fun p hp => .tail _ (List.mem_append.mpr (.inr hp))) qM⟩, ys4.length, .head _, DatAll.mono (fun p hp => .tail _ hp) hys⟩ ?_
      clear Nf off ht hys lF' lN' mS qS mF qF hh st0 mM qM led
      intro led ⟨st0, ⟨cM, mM, qM⟩, cA, mA, qA⟩
      have st1 := st0
      obtain ⟨lN', hh, -, ⟨mS, qS⟩, ⟨mF, qF⟩, -⟩ := st1
      dsimp only at lN' mS qS mF qF
      k_steps
      show wpAny _ _ _ _ _ _
      (rename Fr _ _ _ _ => lF'); (rename News _ _ _ _ => lN')
      k_dflt (refine Con.use (law_of_hit ys (qs.map negQ) (ss.map awayQ) f) B lF' X lN' T rfl ⟨hh, Df, cM, Da, ys4, cA, rfl, mM, qM, mA, qA, n4, by simpa using n5, by simpa using n6, by simpa using n7, n9⟩ (by omega) (by omega) ?_)
      intro r2 tl2 h2 tk2 F2 N2 off2 out2
      obtain ⟨rs, D2, c2, ys2, hperm, hpw, rfl, hD2, hys2⟩ := out2
      rw [n10 rs hperm hpw] at hys2
      refine abs_led (fun led => LSt h₀ L _ h2 led ∧ ((D2, listOf ys2.toArray c2) ∈ led ∧ IsQs led ys2 (fo.map negQ))) ⟨st0.mono N2 (hh.grow off2) (fun p hp => List.mem_append.mpr (.inr hp)), List.mem_append.mpr (.inl hD2), hys2⟩ ?_
      clear N2 off2 lF' lN' mS qS mF qF mM qM mA qA hh led hys2 hD2 st0
      intro led ⟨st0, mD, qD⟩
      have st1 := st0
      obtain ⟨lN', hh, -, -, ⟨mF, qF⟩, -⟩ := st1
      dsimp only at lN' mF qF
      k_steps
      show LCg.CompSrc _ _ _ _ _ _ _ _ _ _ _ _ _ _
      (rename Fr _ _ _ _ => lF'); (rename News _ _ _ _ => lN')
      refine comp_src negQ rfl lF' lN' mF qF (by omega) ?turn3 ?fin3
      case turn3 =>
        intro q va vt vu vk bs I oI C oC Dc m₂ ys hc tkc gg Ec hq hvm hCo hx2 Fc Nc off ne
        have hbq := n2 q hq
        clear lF' lN' st0
        dsimp only [SmL] at hbq
        k_steps
        have hl := ‹_ ∧ _ ∧ _ ∧ AllLt _ bs›
        exact TurnEnd.intro [(_, _)] (by assumption) (by assumption) (off_one (lt_cons hl.1 (lt_cons hl.2.1 (lt_cons hl.2.2.1 (lt_of_all hl.2.2.2))))) (IsQ.mk (.head _))
      case fin3 =>
        intro gg3 ys3 tl3 ht3 hys3
        intro Df3 hf3 tkf3 Ff3 Nf3 off3
        dsimp only
        k_dflt (refine lne_same Nf3 (.tail _ (List.mem_append.mpr (.inr mD))) (.head _) (DatAll.mono (fun p hp => .tail _ (List.mem_append.mpr (.inr hp))) qD) (DatAll.mono (fun p hp => .tail _ hp) hys3) (by show un + 64 < cLine; omega) ?_)
        clear lF' lN'
        k_steps
        show wpAny _ _ _ _ _ _
        exact law_s15 f _ num15 B Ff3 X T (st0.mono Nf3 (HitNw.grow (tl := [(Df3, _)]) (hh.grow ht3) (own_one off3)) (fun p hp => .tail _ (List.mem_append.mpr (.inr hp)))) ⟨by (try simp only [kstB]); (try dsimp only); (repeat (rw [if_neg (by decide)])); exact v1, by (try simp only [kstB]); (try dsimp only); (repeat (rw [if_neg (by decide)])); exact v2, by (try simp only [kstB]); (try dsimp only); (repeat (rw [if_neg (by decide)])); exact v3, by (try simp only [kstB]); (try dsimp only); (repeat (rw [if_neg (by decide)])); exact v4, by (try simp only [kstB]); (try dsimp only); (repeat (rw [if_neg (by decide)])); exact v5⟩ hd hu (fun h' tk' m' all a b c => hQ h' tk' m' all a b c)



theorem med_step {us : List Value} {qs : List (Int × Int)} {fm : List (Int × Int) → Int × Int} {dp un : Nat} {gd : Option (List Code)} {cn : Str} {cs : Scope} {a : Addr} {ccd : Value} {cl : List (Str × Addr)} {outer : List Env} {A₀ : Around} {base h₀ : Heap} {L : Addr} {m : Str → Option Value} {led : Led} {s : Shared}
    {Q E : Value → Shared → Prop} {x d D : Addr} {t0 t1 t2 t3 t4 t5 : Tok} {n c : Nat} (B : Below A₀ base outer h₀) (F : Fr h₀ L s.heap m) (X : (KK w.params).In h₀) (N : News h₀ L s.heap ((x, instObj 171 d) :: (d, vecD w t0 t1 t2 t3 t4 t5 D n) :: (D, listOf us.toArray c) :: led)) (T : Top p loose mean mg mb h₀) (hk : cs.kind = .function)
    (lD : ∀ q ∈ led, q.1 < D) (ld : D < d) (lx : d < x) (hh : HitNw led) (hq : IsQs led us qs) (hs : Den qs) (h1 : 0 < qs.length) (h64 : qs.length < 64) (hfit : ∀ rs, rs.Perm qs → rs.Pairwise (fun a b => a.1 * b.2 ≤ b.1 * a.2) → MedFit rs (fm rs)) (hd : dp + 40 < recursionLimit) (hu : un + 2000 < cLine)
    (ret : ∀ r tl h' tk', Fr h₀ L h' m → News h₀ L h' (tl ++ led) → OwnOff tl (led.map (·.1)) → MedOut w qs fm led tl r → Q r { s with heap := h', toks := tk' }) :
    wpAny (model LP w) (ktrTop dp un gd cn cs L a ccd cl outer) (call (.ref 215) [.ref x]) Q E s := by
  have lall : ∀ q ∈ (D, listOf us.toArray c) :: led, q.1 < d := lt_cons ld fun q hq => Nat.lt_trans (lD q hq) ld
  have lall2 : ∀ q ∈ (d, vecD w t0 t1 t2 t3 t4 t5 D n) :: (D, listOf us.toArray c) :: led, q.1 < x := lt_cons lx fun q hq => Nat.lt_trans (lall q hq) lx
  refine Con.use (median_hit qs fm) B F X N T hk ⟨((hh.cons lD).cons lall).cons lall2, .ref x, D, us, c, rfl, .mk (.head _) (.tail _ (.head _)), .tail _ (.tail _ (.head _)), qs_cons (qs_cons (qs_cons hq)), hs, h1, h64, hfit⟩ hd hu ?_
  rintro r tl h' tk' F' N' off ⟨rs, lr, cc, v', o1, o2, o3, o4, o5⟩
  refine ret r (tl ++ [(x, instObj 171 d), (d, vecD w t0 t1 t2 t3 t4 t5 D n), (D, listOf us.toArray c)]) h' tk' F' (by simpa using N') (off_app (fun q hq b hb => off q hq b (.tail _ (.tail _ (.tail _ hb)))) (fun q hq b hb => ?_)) ⟨rs, lr, cc, v', o1, o2, ?_, List.mem_append.mpr (.inl o4), by simpa using o5⟩
  · obtain ⟨y, hy, rfl⟩ := List.mem_map.mp hb
    simp only [List.mem_cons, List.not_mem_nil, or_false] at hq
    rcases hq with rfl | rfl | rfl
    · exact Nat.ne_of_gt (lall2 y (.tail _ (.tail _ hy)))
    · exact Nat.ne_of_gt (lall y (.tail _ hy))
    · exact Nat.ne_of_gt (lD y hy)
  · obtain ⟨xv, dv, t0, t1, t2, t3, t4, t5, nv, rfl, hx, hdv⟩ := o3.out
    exact .mk (List.mem_append.mpr (.inl hx)) (List.mem_append.mpr (.inl hdv))
def Num11 (f : List (Int × Int) → Int × Int → Int × Int) (fm : List (Int × Int) → Int × Int) (v : LawV) : Prop :=
  Den v.qs ∧ 0 < v.qs.length ∧ v.qs.length < 64 ∧ (∀ rs, rs.Perm v.qs → rs.Pairwise (fun a b => a.1 * b.2 ≤ b.1 * a.2) → MedFit rs (fm rs)) ∧ QsFit v.qs [(1, 2)] f ∧ ∀ rs, rs.Perm v.qs → rs.Pairwise (fun a b => a.1 * b.2 ≤ b.1 * a.2) → ∀ rs', rs'.Perm v.qs → rs'.Pairwise (fun a b => a.1 * b.2 ≤ b.1 * a.2) → f rs' (1, 2) = fm rs
local macro_rules | `(tactic| walk_at "execs cons") => `(tactic| ((with_reducible show wpAny _ _ (execs (PySem.Stmt.Assign [PySem.Expr.Name (PySem.Str.ofString "mirrored") _] _ _ :: _) _) _ _ _); refine hold ?_))
set_option maxHeartbeats 8000000 in
theorem law_s11 (f : List (Int × Int) → Int × Int → Int × Int) (fm : List (Int × Int) → Int × Int) (v : LawV) (num : Num11 f fm v) (num12 : Num12 f v) (num15 : Num15 f v) {fa : Addr} {cd : Value} {dp un : Nat} {gd : Option (List Code)} {outer : List Env} {A₀ : Around} {base h₀ : Heap} {L : Addr} {s : Shared} {m : Str → Option Value} {led : Led} {Q : Flow → Shared → Prop} {E : Value → Shared → Prop}
    (B : Below A₀ base outer h₀) (F : Fr h₀ L s.heap m) (X : (KK w.params).In h₀) (T : Top p loose mean mg mb h₀) (st : LSt h₀ L v s.heap led) (hv : LVar v m) (hd : dp + 100 < recursionLimit) (hu : un + 4000 < cLine) (hQ : LEnd h₀ L s Q) :
    wpAny (model LP w) (ktrTop dp un gd (lawLit w).val.qual (lawLit w).val.scope L fa cd (cellsFrom (L + 1) (lawLit w).val.scope.names []) outer) (execs ((lawLit w).val.body.drop 11) (lawEnv w L fa cd)) Q E s := by
  have hT : Touch PySem.Challenge.rw_ov0057_01 KK := by (k_fill; trivial)
  clear hT
  k_with "pyIter ref" => (refine hold ?_)
  obtain ⟨lI, lS, lF, lR, usI, usS, usF, usR, cI, cS, cF, cR, qs, ss, fo, rk, many, mt⟩ := v
  have st0 := st
  have hv0 := hv
  obtain ⟨N, hh, ⟨mI, qI⟩, ⟨mS, qS⟩, ⟨mF, qF⟩, mR, qR⟩ := st
  obtain ⟨v1, v2, v3, v4, v5⟩ := hv
  obtain ⟨n1, n2, n3, n4, n5, n6⟩ := num
  dsimp only at n1 n2 n3 n4 n5 n6 N mI qI mS qS mF qF mR qR v1 v2 v3 v4 v5
  dsimp only [lawLit, lawEnv, List.drop]
  (try k_fold)
  have hul : usI.length = qs.length := by rw [DatAll.length qI, List.length_map]
  clear mS qS mF qF mR qR
  k_steps
  show wpAny _ _ _ _ _ _
  (rename Fr _ _ _ _ => lF'); (rename News _ _ _ _ => lN')
  k_dflt (refine med_step B lF' X lN' T rfl (by assumption) (And.left (by assumption)) (by assumption) hh qI n1 n2 n3 n4 (by omega) (by omega) ?_)
  intro r2 tl2 h2 tk2 F2 N2 off2 out2
  obtain ⟨rs, lr, cr, vr, hperm, hpw, hvec, hlr, hvr⟩ := out2
  obtain ⟨xv, dv, t0, t1, t2, t3, t4, t5, nv, rfl, hx, hdv⟩ := hvec.out
  refine abs_led (fun led => LSt h₀ L _ h2 led ∧ (xv, instObj 171 dv) ∈ led ∧ (dv, vecD w t0 t1 t2 t3 t4 t5 lr nv) ∈ led ∧ (lr, listOf #[vr] cr) ∈ led ∧ IsQ led vr (fm rs).1 (fm rs).2) ⟨st0.mono N2 (hh.grow off2) (fun p hp => List.mem_append.mpr (.inr hp)), List.mem_append.mpr (.inl hx), List.mem_append.mpr (.inl hdv), List.mem_append.mpr (.inl hlr), hvr⟩ ?_
  clear N2 off2 lF' lN' mI qI hh st0 hx hdv hlr hvr hvec
  intro led ⟨st0, hx, hdv, hlr, hvr⟩
  have st1 := st0
  obtain ⟨lN', hh, ⟨mI, qI⟩, -⟩ := st1
  dsimp only at lN' mI qI
  k_steps
  show wpAny _ _ _ _ _ _
  rename_i Dp h31 lpa Dl h32 lF' lN' lpb
  have hh2 := fun o o' => (hh.cons (o := o) lpa).cons (o := o') (lt_cons lpb.1 (lt_of_all lpb.2))
  k_dflt (refine Con.use (law_of_hit usI qs [(1, 2)] f) B lF' X lN' T rfl ⟨hh2 _ _, lI, cI, Dl, [.ref Dp], 0, rfl, .tail _ (.tail _ mI), qs_cons (qs_cons qI), .head _, .cons (IsQ.dat (n := 1) (d := 2) (.mk (.tail _ (.head _)))) .nil, n1, n2, n3, by decide, n5⟩ (by omega) (by omega) ?_)
  intro r3 tl3 h3 tk3 F3 N3 off3 out3
  obtain ⟨rs', D3, c3, ys3, hp3, hw3, rfl, hD3, hys3⟩ := out3
  have e9 : f rs' (1, 2) = fm rs := n6 rs hperm hpw rs' hp3 hw3
  rw [List.map_singleton, e9] at hys3
  dsimp only
  have sub3 : ∀ a b : Addr × Obj, ∀ p ∈ led, p ∈ tl3 ++ (a :: b :: led) := fun a b p hp => List.mem_append.mpr (.inr (.tail _ (.tail _ hp)))
  k_dflt (refine lne_same (xs := [vr]) N3 (sub3 _ _ _ hlr) (List.mem_append.mpr (.inl hD3)) (.cons (hvr.mono (sub3 _ _)).dat .nil) hys3 (by show un + 64 < cLine; omega) ?_)
  clear lF' lN'
  k_steps
  show wpAny _ _ _ _ _ _
  exact law_s12 f _ num12 num15 B F3 X T (st0.mono N3 ((hh2 _ _).grow off3) (sub3 _ _)) ⟨by (try simp only [kstB]); (try dsimp only); (repeat (rw [if_neg (by decide)])); exact v1, by (try simp only [kstB]); (try dsimp only); (repeat (rw [if_neg (by decide)])); exact v2, by (try simp only [kstB]); (try dsimp only); (repeat (rw [if_neg (by decide)])); exact v3, by (try simp only [kstB]); (try dsimp only); (repeat (rw [if_neg (by decide)])); exact v4, by (try simp only [kstB]); (try dsimp only); (repeat (rw [if_neg (by decide)])); exact v5⟩ hd hu (fun h' tk' m' all a b c => hQ h' tk' m' all a b c)



def placeOf (many rank : Nat) : Int × Int := if many = 1 then (0, 1) else lowQ (rank : Int) ((many : Int) - 1)
def Num10 (f : List (Int × Int) → Int × Int → Int × Int) (v : LawV) : Prop :=
  Den v.qs ∧ 0 < v.qs.length ∧ v.qs.length < 64 ∧ v.many = v.rk.length ∧ 1 ≤ v.many ∧ v.many ≤ 8 ∧ ∀ k, k < v.many → QsFit v.qs [placeOf v.many k] f ∧ ∀ x, v.rk[k]? = some x → ∀ rs, rs.Perm v.qs → rs.Pairwise (fun a b => a.1 * b.2 ≤ b.1 * a.2) → f rs (placeOf v.many k) = x
theorem HitNw.swap {a b : Led} (h : HitNw (a ++ b)) : HitNw (b ++ a) := by
  obtain ⟨ps, rest, q1, q2, q3, q4⟩ := h
  exact ⟨ps, rest, fun q hq => led_swap q (q1 q hq), q2, fun q hq => q3 q (led_swap q hq), q4⟩
local macro_rules | `(tactic| walk_at "compareOp NotEq ref") => `(tactic| (refine hold ?_))
local macro_rules | `(tactic| walk_at "compareOp NotEq ref ref") => `(tactic| (refine hold ?_))
set_option maxHeartbeats 8000000 in
theorem law_s10 (f : List (Int × Int) → Int × Int → Int × Int) (fm : List (Int × Int) → Int × Int) (v : LawV) (num : Num10 f v) (num11 : Num11 f fm v) (num12 : Num12 f v) (num15 : Num15 f v) {fa : Addr} {cd : Value} {dp un : Nat} {gd : Option (List Code)} {outer : List Env} {A₀ : Around} {base h₀ : Heap} {L : Addr} {s : Shared} {m : Str → Option Value} {led : Led} {Q : Flow → Shared → Prop}
    (B : Below A₀ base outer h₀) (F : Fr h₀ L s.heap m) (X : (KK w.params).In h₀) (T : Top p loose mean mg mb h₀) (st : LSt h₀ L v s.heap led) (hv : LVar v m) (hd : dp + 100 < recursionLimit) (hu : un + 4000 < cLine) (hQ : LEnd h₀ L s Q) :
    wpAny (model LP w) (ktrTop dp un gd (lawLit w).val.qual (lawLit w).val.scope L fa cd (cellsFrom (L + 1) (lawLit w).val.scope.names []) outer) (execs ((lawLit w).val.body.drop 10) (lawEnv w L fa cd)) Q (fun _ _ => False) s := by
  have hT : Touch PySem.Challenge.rw_ov0057_01 KK := by (k_fill; trivial)
  clear hT
  k_with "pyIter ref" => (refine hold ?_)
  obtain ⟨lI, lS, lF, lR, usI, usS, usF, usR, cI, cS, cF, cR, qs, ss, fo, rk, many, mt⟩ := v
  have st0 := st
  have hv0 := hv
  obtain ⟨N, hh, ⟨mI, qI⟩, ⟨mS, qS⟩, ⟨mF, qF⟩, mR, qR⟩ := st
  obtain ⟨v1, v2, v3, v4, v5⟩ := hv
  obtain ⟨n1, n2, n3, n4, n5, n6, n7⟩ := num
  dsimp only at n1 n2 n3 n4 n5 n6 n7 N mI qI mS qS mF qF mR qR v1 v2 v3 v4 v5
  dsimp only [lawLit, lawEnv, List.drop]
  (try k_fold)
  have hul : usI.length = qs.length := by rw [DatAll.length qI, List.length_map]
  clear mS qS mF qF
  k_steps
  show wpAny _ _ _ _ _ _
  (rename Fr _ _ _ _ => lF'); (rename News _ _ _ _ => lN'); (rename IsRange _ _ _ _ _ _ _ _ => hRg)
  refine' kd_range (σ := Unit) (n := many) (fun _ => []) led (fun _ => []) (fun _ _ => True) [Str.ofString "place", Str.ofString "due"] (fun _ _ => True) (led.map (·.1)) () rfl hRg (small_one (by decide) (by decide) (by omega) (by omega)) (by rw [rangeSize_nat]; omega) lF' lN' (fun p hp => by simpa using hp) (fun _ => rfl) trivial (fun _ h => nomatch h) trivial
      (fun c tl pre k t u h tk own hk hpl hS hO _ _ F1 N1 => ?_) (fun c tl u h tk hO _ _ F1 N1 => ?_)
  · clear lF' lN' hRg
    obtain rfl : k = (pre.length : Int) := by omega
    obtain ⟨x, hx⟩ : ∃ x, rk[pre.length]? = some x := ⟨_, List.getElem?_eq_getElem (by omega)⟩
    obtain ⟨vx, hvx, hdx⟩ := qR.get hx
    obtain ⟨hfit, hdue⟩ := n7 pre.length hpl
    replace hdue := hdue x hx
    have hvx2 : usR[((pre.length : Int)).toNat]? = some vx := by simpa using hvx
    have hsub : ∀ p ∈ led, p ∈ led ++ (tl ++ own) := fun p hp => List.mem_append.mpr (.inl hp)
    have hhB : HitNw (led ++ (tl ++ own)) := (hh.grow hO).swap
    have hT0 : Tl (led ++ (tl ++ own)) (led ++ (tl ++ own)) := Tl.nil
    have mIB := hsub _ mI
    have qIB : IsQs (led ++ (tl ++ own)) usI qs := DatAll.mono hsub qI
    have mRB := hsub _ mR
    have hdxB := hdx.mono hsub
    replace N1 : News h₀ L h (led ++ (tl ++ own)) := N1
    clear hh mI qI mR qR hdx st0 hsub hvx
    generalize hbs : led ++ (tl ++ own) = bs at N1 hhB hT0 mIB qIB mRB hdxB
    k_steps
    · show wpAny _ _ _ _ _ _
      (rename Fr _ _ _ _ => lF'); (rename News _ _ _ _ => lN')
      have lpa := ‹∀ p ∈ bs, p.1 < _›
      have lpb := ‹_ ∧ AllLt _ bs›
      have hp1 : placeOf many pre.length = (0, 1) := by unfold placeOf; rw [if_pos (by omega)]
      rw [hp1] at hfit hdue
      k_dflt (refine Con.use (law_of_hit usI qs [(0, 1)] f) B lF' X lN' T rfl ⟨(hhB.cons lpa).cons (lt_cons lpb.1 (lt_of_all lpb.2)), lI, cI, _, [_], 0, rfl, .tail _ (.tail _ mIB), qs_cons (qs_cons qIB), .head _, .cons (IsQ.dat (n := 0) (d := 1) (.mk (.tail _ (.head _)))) .nil, n1, n2, n3, by simp, hfit⟩ (by omega) (by omega) ?_)
      have hTm := fun o o' => Tl.one (o := o') (lt_cons lpb.1 (lt_of_all lpb.2)) (Tl.one (o := o) lpa hT0)
      intro r3 tl3 h3 tk3 F3 N3 off3 out3
      obtain ⟨rs', D3, c3, ys3, hp3, hw3, rfl, hD3, hys3⟩ := out3
      have e9 := hdue rs' hp3 hw3
      rw [List.map_singleton, e9] at hys3
      refine abs_led (fun led => News h₀ L h3 led ∧ Tl led bs ∧ (D3, listOf ys3.toArray c3) ∈ led ∧ IsQs led ys3 [x]) ⟨N3, Tl.cons off3 (hTm _ _), List.mem_append.mpr (.inl hD3), hys3⟩ ?_
      clear N3 off3 hD3 hys3 lN' lF' hTm
      intro all ⟨N4, hT4, mD, qD⟩
      dsimp only
      k_steps
      show wpAny _ _ _ _ _ _
      (rename Fr _ _ _ _ => lF'); (rename News _ _ _ _ => lN')
      have l5 := ‹∀ p ∈ all, p.1 < _›
      have hsb : ∀ p ∈ bs, p ∈ all := by
        obtain ⟨X4, s1, s2, o4⟩ := hT4
        exact fun p hp => s1 p (List.mem_append.mpr (.inr hp))
      k_dflt (refine lne_same (ys := [vx]) lN' (.tail _ mD) (.head _) (qs_cons qD) (qs_cons (.cons (hdxB.mono hsb).dat .nil)) (by show un + 64 < cLine; omega) ?_)
      k_steps
      obtain ⟨X5, s1, s2, o5⟩ := Tl.one (o := listOf #[vx] 0) l5 hT4
      subst hbs
      refine end_led (tl2 := X5) () hS (by assumption) (fun p hp => lN' p (s1 p hp)) o5 (fun _ h => nomatch h) ?_ trivial trivial
      intro z h1 h2 h3
      have q1 : z ≠ Str.ofString "place" := fun e => by rw [e] at h3; exact absurd h3 (by decide)
      have q2 : z ≠ Str.ofString "due" := fun e => by rw [e] at h3; exact absurd h3 (by decide)
      simp only [h1, h3, q1, q2, if_false, kstB, Bool.false_eq_true]
    · show wpAny _ _ _ _ _ _
      (rename Fr _ _ _ _ => lF'); (rename News _ _ _ _ => lN')
      have lpa := ‹∀ p ∈ _ ++ bs, p.1 < _›
      have lpo := ‹OwnOff _ (bs.map fun x => x.1)›
      have hp1 : placeOf many pre.length = lowQ (pre.length : Int) ((many : Int) - 1) := by unfold placeOf; rw [if_neg (by omega)]
      rw [hp1] at hfit hdue
      k_dflt (refine Con.use (law_of_hit usI qs [lowQ (pre.length : Int) ((many : Int) - 1)] f) B lF' X lN' T rfl ⟨(hhB.grow lpo).cons lpa, lI, cI, _, [_], 0, rfl, .tail _ (List.mem_append.mpr (.inr mIB)), qs_cons (DatAll.mono (fun p hp => List.mem_append.mpr (.inr hp)) qIB), .head _, .cons (IsQ.dat (n := lowN (pre.length : Int) ((many : Int) - 1)) (d := lowD (pre.length : Int) ((many : Int) - 1)) (.mk (.tail _ (List.mem_append.mpr (.inl (by assumption)))))) .nil, n1, n2, n3, by simp, hfit⟩ (by omega) (by omega) ?_)
      have hTm := fun o => Tl.one (o := o) lpa (Tl.cons lpo hT0)
      intro r3 tl3 h3 tk3 F3 N3 off3 out3
      obtain ⟨rs', D3, c3, ys3, hp3, hw3, rfl, hD3, hys3⟩ := out3
      have e9 := hdue rs' hp3 hw3
      rw [List.map_singleton, e9] at hys3
      refine abs_led (fun led => News h₀ L h3 led ∧ Tl led bs ∧ (D3, listOf ys3.toArray c3) ∈ led ∧ IsQs led ys3 [x]) ⟨N3, Tl.cons off3 (hTm _), List.mem_append.mpr (.inl hD3), hys3⟩ ?_
      clear N3 off3 hD3 hys3 lN' lF' hTm
      intro all ⟨N4, hT4, mD, qD⟩
      dsimp only
      k_steps
      show wpAny _ _ _ _ _ _
      (rename Fr _ _ _ _ => lF'); (rename News _ _ _ _ => lN')
      have l5 := ‹∀ p ∈ all, p.1 < _›
      have hsb : ∀ p ∈ bs, p ∈ all := by
        obtain ⟨X4, s1, s2, o4⟩ := hT4
        exact fun p hp => s1 p (List.mem_append.mpr (.inr hp))
      k_dflt (refine lne_same (ys := [vx]) lN' (.tail _ mD) (.head _) (qs_cons qD) (qs_cons (.cons (hdxB.mono hsb).dat .nil)) (by show un + 64 < cLine; omega) ?_)
      k_steps
      obtain ⟨X5, s1, s2, o5⟩ := Tl.one (o := listOf #[vx] 0) l5 hT4
      subst hbs
      refine end_led (tl2 := X5) () hS (by assumption) (fun p hp => lN' p (s1 p hp)) o5 (fun _ h => nomatch h) ?_ trivial trivial
      intro z h1 h2 h3
      have q1 : z ≠ Str.ofString "place" := fun e => by rw [e] at h3; exact absurd h3 (by decide)
      have q2 : z ≠ Str.ofString "due" := fun e => by rw [e] at h3; exact absurd h3 (by decide)
      simp only [h1, h3, q1, q2, if_false, kstB, Bool.false_eq_true]
  · k_dflt (dsimp only)
    show wpAny _ _ _ _ _ _
    exact law_s11 f fm _ num11 num12 num15 B F1 X T (st0.mono (show News h₀ L h (led ++ tl) from N1) (hh.grow hO).swap (fun p hp => List.mem_append.mpr (.inl hp))) ⟨by (try simp only [kstB]); (try dsimp only); (repeat (rw [if_neg (by decide)])); exact v1, by (try simp only [kstB]); (try dsimp only); (repeat (rw [if_neg (by decide)])); exact v2, by (try simp only [kstB]); (try dsimp only); (repeat (rw [if_neg (by decide)])); exact v3, by (try simp only [kstB]); (try dsimp only); (repeat (rw [if_neg (by decide)])); exact v4, by (try simp only [kstB]); (try dsimp only); (repeat (rw [if_neg (by decide)])); exact v5⟩ hd hu (fun h' tk' m' all a b c => hQ h' tk' m' all a b c)



def Num9 (v : LawV) : Prop :=
  v.ss.length = v.fo.length ∧ v.ss.length < 64 ∧ (∀ q ∈ v.ss, SmL q) ∧ (∀ q ∈ v.fo, SmL q) ∧ ∀ (i j : Nat) (p p' g g' : Int × Int), v.ss[i]? = some p → v.ss[j]? = some p' → v.fo[i]? = some g → v.fo[j]? = some g' → p.1 * p'.2 < p'.1 * p.2 → g'.1 * g.2 < g.1 * g'.2 → False
set_option maxHeartbeats 8000000 in
theorem law_s9 (f : List (Int × Int) → Int × Int → Int × Int) (fm : List (Int × Int) → Int × Int) (v : LawV) (num : Num9 v) (num10 : Num10 f v) (num11 : Num11 f fm v) (num12 : Num12 f v) (num15 : Num15 f v) {fa : Addr} {cd : Value} {dp un : Nat} {gd : Option (List Code)} {outer : List Env} {A₀ : Around} {base h₀ : Heap} {L : Addr} {s : Shared} {m : Str → Option Value} {led : Led} {Q : Flow → Shared → Prop}
    (B : Below A₀ base outer h₀) (F : Fr h₀ L s.heap m) (X : (KK w.params).In h₀) (T : Top p loose mean mg mb h₀) (st : LSt h₀ L v s.heap led) (hv : LVar v m) (hd : dp + 100 < recursionLimit) (hu : un + 4000 < cLine) (hQ : LEnd h₀ L s Q) :
    wpAny (model LP w) (ktrTop dp un gd (lawLit w).val.qual (lawLit w).val.scope L fa cd (cellsFrom (L + 1) (lawLit w).val.scope.names []) outer) (execs ((lawLit w).val.body.drop 9) (lawEnv w L fa cd)) Q (fun _ _ => False) s := by
  have hT : Touch PySem.Challenge.rw_ov0057_01 KK := by (k_fill; trivial)
  clear hT
  k_with "pyIter ref" => (refine hold ?_)
  obtain ⟨lI, lS, lF, lR, usI, usS, usF, usR, cI, cS, cF, cR, qs, ss, fo, rk, many, mt⟩ := v
  have st0 := st
  have hv0 := hv
  obtain ⟨N, hh, ⟨mI, qI⟩, ⟨mS, qS⟩, ⟨mF, qF⟩, mR, qR⟩ := st
  obtain ⟨v1, v2, v3, v4, v5⟩ := hv
  obtain ⟨n1, n2, n3, n4, n5⟩ := num
  dsimp only at n1 n2 n3 n4 n5 N mI qI mS qS mF qF mR qR v1 v2 v3 v4 v5
  dsimp only [lawLit, lawEnv, List.drop]
  (try k_fold)
  have hul : usS.length = ss.length := by rw [DatAll.length qS, List.length_map]
  clear mI qI mR qR
  k_steps
  show wpAny _ _ _ _ _ _
  (rename Fr _ _ _ _ => lF'); (rename News _ _ _ _ => lN'); (rename IsRange _ _ _ _ _ _ _ _ => hRg)
  refine' kd_range (σ := Unit) (n := usS.length) (fun _ => []) led (fun _ => []) (fun _ _ => True) [Str.ofString "j"] (fun _ _ => True) (led.map (·.1)) () rfl hRg (small_one (by decide) (by decide) (by omega) (by omega)) (by rw [rangeSize_nat]; omega) lF' lN' (fun p hp => by simpa using hp) (fun _ => rfl) trivial (fun _ h => nomatch h) trivial
      (fun c tl pre k t u h tk own hk hpl hS hO _ _ F1 N1 => ?_) (fun c tl u h tk hO _ _ F1 N1 => ?_)
  · clear lF' lN' hRg
    obtain rfl : k = (pre.length : Int) := by omega
    obtain ⟨p0, hp0⟩ : ∃ x, ss[pre.length]? = some x := ⟨_, List.getElem?_eq_getElem (by omega)⟩
    obtain ⟨g0, hg0⟩ : ∃ x, fo[pre.length]? = some x := ⟨_, List.getElem?_eq_getElem (by omega)⟩
    have hsub : ∀ p ∈ led, p ∈ led ++ (tl ++ own) := fun p hp => List.mem_append.mpr (.inl hp)
    have mSB := hsub _ mS
    have mFB := hsub _ mF
    have qSB : IsQs (led ++ (tl ++ own)) usS ss := DatAll.mono hsub qS
    have qFB : IsQs (led ++ (tl ++ own)) usF fo := DatAll.mono hsub qF
    replace N1 : News h₀ L h (led ++ (tl ++ own)) := N1
    clear hh mS qS mF qF st0 hsub
    generalize hbs : led ++ (tl ++ own) = bs at N1 mSB mFB qSB qFB
    obtain ⟨vp0, hvp0, hdp0⟩ := qSB.get hp0
    obtain ⟨vg0, hvg0, hdg0⟩ := qFB.get hg0
    obtain ⟨ap0, tp0, up0, kp0, rfl, mp0⟩ := hdp0.out
    obtain ⟨ag0, tg0, ug0, kg0, rfl, mg0⟩ := hdg0.out
    have bp0 := n3 p0 (List.mem_of_getElem? hp0)
    have bg0 := n4 g0 (List.mem_of_getElem? hg0)
    k_steps
    show wpAny _ _ _ _ _ _
    (rename Fr _ _ _ _ => lF'); (rename News _ _ _ _ => lN'); (rename IsRange _ _ _ _ _ _ _ _ => hRg)
    refine' kd_range (σ := Unit) (n := usS.length) (fun _ => []) bs (fun _ => []) (fun _ _ => True) [] (fun _ _ => True) (bs.map (·.1)) () rfl hRg (small_one (by decide) (by decide) (by omega) (by omega)) (by rw [rangeSize_nat]; omega) lF' lN' (fun p hp => by simpa using hp) (fun _ => rfl) trivial (fun _ h => nomatch h) trivial
      (fun c tl2 pre2 k2 t2 u2 h2 tk2 own2 hk2 hpl2 hS2 hO2 _ _ F2 N2 => ?_) (fun c tl2 u2 h2 tk2 hO2 _ _ F2 N2 => ?_)
    · clear lF' lN' hRg
      obtain rfl : k2 = (pre2.length : Int) := by omega
      obtain ⟨p1, hp1⟩ : ∃ x, ss[pre2.length]? = some x := ⟨_, List.getElem?_eq_getElem (by omega)⟩
      obtain ⟨g1, hg1⟩ : ∃ x, fo[pre2.length]? = some x := ⟨_, List.getElem?_eq_getElem (by omega)⟩
      obtain ⟨vp1, hvp1, hdp1⟩ := qSB.get hp1
      obtain ⟨vg1, hvg1, hdg1⟩ := qFB.get hg1
      obtain ⟨ap1, tp1, up1, kp1, rfl, mp1⟩ := hdp1.out
      obtain ⟨ag1, tg1, ug1, kg1, rfl, mg1⟩ := hdg1.out
      have bp1 := n3 p1 (List.mem_of_getElem? hp1)
      have bg1 := n4 g1 (List.mem_of_getElem? hg1)
      have hno := n5 _ _ _ _ _ _ hp0 hp1 hg0 hg1
      have hsub : ∀ p ∈ bs, p ∈ bs ++ (tl2 ++ own2) := fun p hp => List.mem_append.mpr (.inl hp)
      replace mp0 := hsub _ mp0
      replace mp1 := hsub _ mp1
      replace mg0 := hsub _ mg0
      replace mg1 := hsub _ mg1
      replace mSB := hsub _ mSB
      replace mFB := hsub _ mFB
      replace N2 : News h₀ L h2 (bs ++ (tl2 ++ own2)) := N2
      clear qSB qFB hsub hbs n5
      obtain ⟨p0n, p0d⟩ := p0
      obtain ⟨p1n, p1d⟩ := p1
      obtain ⟨g0n, g0d⟩ := g0
      obtain ⟨g1n, g1d⟩ := g1
      dsimp only [SmL] at bp0 bp1 bg0 bg1 hno mp0 mp1 mg0 mg1
      have wp0 : usS[((pre.length : Int)).toNat]? = some (.ref ap0) := by simpa using hvp0
      have wp1 : usS[((pre2.length : Int)).toNat]? = some (.ref ap1) := by simpa using hvp1
      have wg0 : usF[((pre.length : Int)).toNat]? = some (.ref ag0) := by simpa using hvg0
      have wg1 : usF[((pre2.length : Int)).toNat]? = some (.ref ag1) := by simpa using hvg1
      clear hvp0 hvp1 hvg0 hvg1
      generalize hbs2 : bs ++ (tl2 ++ own2) = bs2 at *
      k_steps
      all_goals first
        | exact (hno (by assumption) (by assumption)).elim
        | (subst hbs2
           exact end_led0 () hS2 (by assumption) (by assumption) (fun _ h => nomatch h) (by intro z h1 h2 h3; simp only [h1, if_false, kstB, List.contains_nil, Bool.false_eq_true]) trivial trivial)
    · k_dflt (dsimp only)
      clear lF' lN'
      k_steps
      subst hbs
      exact end_led (tl2 := tl2) () hS (by assumption) (fun p hp => (show News h₀ L h2 ((led ++ (tl ++ own)) ++ tl2) from N2) p (led_swap p hp)) hO2 (fun _ h => nomatch h) (by
        intro z h1 h2 h3
        have q1 : z ≠ Str.ofString "j" := fun e => by rw [e] at h3; exact absurd h3 (by decide)
        simp only [h1, h3, q1, if_false, kstB, List.contains_nil, Bool.false_eq_true]) trivial trivial
  · k_dflt (dsimp only)
    show wpAny _ _ _ _ _ _
    exact law_s10 f fm _ num10 num11 num12 num15 B F1 X T (st0.mono (show News h₀ L h (led ++ tl) from N1) (hh.grow hO).swap (fun p hp => List.mem_append.mpr (.inl hp))) ⟨by (try simp only [kstB]); (try dsimp only); (repeat (rw [if_neg (by decide)])); exact v1, by (try simp only [kstB]); (try dsimp only); (repeat (rw [if_neg (by decide)])); exact v2, by (try simp only [kstB]); (try dsimp only); (repeat (rw [if_neg (by decide)])); exact v3, by (try simp only [kstB]); (try dsimp only); (repeat (rw [if_neg (by decide)])); exact v4, by (try simp only [kstB]); (try dsimp only); (repeat (rw [if_neg (by decide)])); exact v5⟩ hd hu (fun h' tk' m' all a b c => hQ h' tk' m' all a b c)



def Num8 (v : LawV) : Prop := ∃ x y, v.fo[0]? = some x ∧ v.rk[0]? = some x ∧ v.fo[1]? = some y ∧ v.rk[v.rk.length - 1]? = some y ∧ 0 < v.rk.length ∧ v.rk.length < 64
theorem item_last {A : Around} {E : Value → Shared → Prop} {s : Shared} {h₀ : Heap} {L l : Addr} {news : Led} {us : List Value} {n : Nat} {value slice : PySem.Expr} {k : Int} {u : Tok} {v : Value} {Q : Value → Shared → Prop} (N : News h₀ L s.heap news) (hm : (l, listOf us.toArray n) ∈ news) (hk : k = -1) (h0 : 0 < us.length) (hv : us[us.length - 1]? = some v) (h : Q v s)
    (hs : subscripted slice false (.ref l) (.int k u) = operate [.ref l, .int k u] (getItem (.ref l) (.int k u)) := by with_unfolding_all rfl) :
    wpAny (model LP w) A (subscriptTail value slice (.ref l) (.int k u)) Q E s :=
  tail_any (isQ_list N hm).typeIs slot_list_getitem.lookup (wpAny_getItem_list_neg (isQ_list N hm) (by omega) (by rw [List.size_toArray]; omega) (by omega) (by
    have e : (k + (us.toArray.size : Int)).toNat = us.length - 1 := by rw [List.size_toArray]; omega
    rw [e]; simpa using hv) h) hs
local macro_rules | `(tactic| walk_at "subscriptTail") => `(tactic| ((with_reducible show wpAny _ _ (subscriptTail _ _ (Value.ref _) (Value.int _ _)) _ _ _); k_dflt (refine' item_last ?N ?m ?k ?z ?v ?_ ?y; (case N => k_asm); (case m => k_mem); (case k => exact rfl); (case z => omega); (case v => assumption); (case y => with_unfolding_all rfl); k_whole)))
local macro_rules | `(tactic| walk_at "compareOp NotEq ref") => `(tactic| (refine hold ?_))
local macro_rules | `(tactic| walk_at "compareOp NotEq ref ref") => `(tactic| (refine hold ?_))
local macro_rules | `(tactic| walk_at "execs cons") => `(tactic| ((with_reducible show wpAny _ _ (execs (PySem.Stmt.For (PySem.Expr.Name (PySem.Str.ofString "i") _) _ _ _ _ :: _) _) _ _ _); refine hold ?_))
set_option maxHeartbeats 8000000 in
theorem law_s8 (f : List (Int × Int) → Int × Int → Int × Int) (fm : List (Int × Int) → Int × Int) (v : LawV) (num : Num8 v) (num9 : Num9 v) (num10 : Num10 f v) (num11 : Num11 f fm v) (num12 : Num12 f v) (num15 : Num15 f v) {fa : Addr} {cd : Value} {dp un : Nat} {gd : Option (List Code)} {outer : List Env} {A₀ : Around} {base h₀ : Heap} {L : Addr} {s : Shared} {m : Str → Option Value} {led : Led} {Q : Flow → Shared → Prop}
    (B : Below A₀ base outer h₀) (F : Fr h₀ L s.heap m) (X : (KK w.params).In h₀) (T : Top p loose mean mg mb h₀) (st : LSt h₀ L v s.heap led) (hv : LVar v m) (hd : dp + 100 < recursionLimit) (hu : un + 4000 < cLine) (hQ : LEnd h₀ L s Q) :
    wpAny (model LP w) (ktrTop dp un gd (lawLit w).val.qual (lawLit w).val.scope L fa cd (cellsFrom (L + 1) (lawLit w).val.scope.names []) outer) (execs ((lawLit w).val.body.drop 8) (lawEnv w L fa cd)) Q (fun _ _ => False) s := by
  have hT : Touch PySem.Challenge.rw_ov0057_01 KK := by (k_fill; trivial)
  clear hT
  k_with "pyIter ref" => (refine hold ?_)
  obtain ⟨lI, lS, lF, lR, usI, usS, usF, usR, cI, cS, cF, cR, qs, ss, fo, rk, many, mt⟩ := v
  have st0 := st
  have hv0 := hv
  obtain ⟨N, hh, ⟨mI, qI⟩, ⟨mS, qS⟩, ⟨mF, qF⟩, mR, qR⟩ := st
  obtain ⟨v1, v2, v3, v4, v5⟩ := hv
  obtain ⟨x, y, n1, n2, n3, n4, n5, n6⟩ := num
  dsimp only at n1 n2 n3 n4 n5 n6 N mI qI mS qS mF qF mR qR v1 v2 v3 v4 v5
  dsimp only [lawLit, lawEnv, List.drop]
  (try k_fold)
  have hul : usR.length = rk.length := by rw [DatAll.length qR, List.length_map]
  clear mI qI mS qS
  obtain ⟨vf0, hvf0, hdf0⟩ := qF.get n1
  obtain ⟨vr0, hvr0, hdr0⟩ := qR.get n2
  obtain ⟨vf1, hvf1, hdf1⟩ := qF.get n3
  obtain ⟨vr1, hvr1, hdr1⟩ := qR.get n4
  obtain ⟨af0, tf0, uf0, kf0, rfl, mf0⟩ := hdf0.out
  obtain ⟨ar0, tr0, ur0, kr0, rfl, mr0⟩ := hdr0.out
  obtain ⟨af1, tf1, uf1, kf1, rfl, mf1⟩ := hdf1.out
  obtain ⟨ar1, tr1, ur1, kr1, rfl, mr1⟩ := hdr1.out
  have wf0 : usF[((0 : Int)).toNat]? = some (.ref af0) := hvf0
  have wr0 : usR[((0 : Int)).toNat]? = some (.ref ar0) := hvr0
  have wf1 : usF[((1 : Int)).toNat]? = some (.ref af1) := hvf1
  have wr1 : usR[usR.length - 1]? = some (.ref ar1) := by rw [hul]; exact hvr1
  have hul0 : 0 < usR.length := by omega
  k_steps
  show wpAny _ _ _ _ _ _
  (rename News _ _ _ _ => lN')
  k_dflt (refine ne_same lN' hdf0 hdr0 (by show un + 64 < cLine; omega) ?_)
  k_steps
  show wpAny _ _ _ _ _ _
  (rename News _ _ _ _ => lN')
  k_dflt (refine ne_same lN' hdf1 hdr1 (by show un + 64 < cLine; omega) ?_)
  k_steps
  show wpAny _ _ _ _ _ _
  (rename News _ _ _ _ => lN'); (rename Fr _ _ _ _ => lF')
  exact law_s9 f fm _ num9 num10 num11 num12 num15 B lF' X T st0 hv0 hd hu (fun h' tk' m' all a b c => hQ h' tk' m' all a b c)



/-- the script's numbers as items and shares -/
def stepI (ms : List Int) : Int := [1, 2, 3].getD ((ms.getD (Int.toNat 1) 0).fmod 3).toNat 0
def itemQ (ms : List Int) (k : Nat) : Int × Int := lowQ ((ms.getD (2 + k) 0).fmod 23 - 11) (stepI ms)
def itemsQ (ms : List Int) (n : Nat) : List (Int × Int) := (List.range n).map (itemQ ms)
def shareQ (ms : List Int) (k : Nat) : Int × Int := lowQ ((ms.getD (10 + k) 0).fmod 13) 12
theorem stepI_le (ms : List Int) : stepI ms = 1 ∨ stepI ms = 2 ∨ stepI ms = 3 := by
  unfold stepI
  have h := fmod_row 0
  have hk : 0 ≤ (ms.getD (Int.toNat 1) 0).fmod 3 ∧ (ms.getD (Int.toNat 1) 0).fmod 3 < 3 := by
    rw [Int.fmod_eq_emod_of_nonneg _ (by decide)]; omega
  have h3 : (ms.getD (Int.toNat 1) 0).fmod 3 = 0 ∨ (ms.getD (Int.toNat 1) 0).fmod 3 = 1 ∨ (ms.getD (Int.toNat 1) 0).fmod 3 = 2 := by omega
  rcases h3 with h | h | h <;> rw [h] <;> simp
theorem fmod_pos (a : Int) {b : Int} (h : 0 < b) : 0 ≤ a.fmod b ∧ a.fmod b < b := by
  rw [Int.fmod_eq_emod_of_nonneg _ (Int.le_of_lt h)]
  exact ⟨Int.emod_nonneg _ (by omega), Int.emod_lt_of_pos _ h⟩
/-- the table is empty -/
def Tab0 (nw : Led) : Prop := ∃ rest, (∀ q ∈ (196, tabObj #[]) :: rest, q ∈ nw) ∧ (∀ q ∈ rest, q.1 ≠ 196) ∧ (∀ q ∈ nw, q ∈ rest ∨ q = (196, tabObj #[]))
theorem Tab0.grow {tl nw : Led} (h : Tab0 nw) (off : OwnOff tl (nw.map (·.1))) : Tab0 (tl ++ nw) := by
  obtain ⟨rest, a, b, c⟩ := h
  refine ⟨tl ++ rest, sp_app a, fun q hq => ?_, fun q hq => ?_⟩
  · rcases List.mem_append.mp hq with hq | hq
    · exact off q hq 196 (List.mem_map.mpr ⟨_, a _ (.head _), rfl⟩)
    · exact b q hq
  · rcases List.mem_append.mp hq with hq | hq
    · exact .inl (List.mem_append.mpr (.inl hq))
    · exact (c q hq).imp (fun h => List.mem_append.mpr (.inr h)) id
theorem Tab0.cons {D : Addr} {o : Obj} {nw : Led} (h : Tab0 nw) (l : ∀ p ∈ nw, p.1 ≠ D) : Tab0 ((D, o) :: nw) := Tab0.grow (tl := [(D, o)]) h (by
  intro p hp b hb
  rw [List.mem_singleton.mp hp]
  obtain ⟨q, hq, rfl⟩ := List.mem_map.mp hb
  exact fun e => l q hq e.symm)
/-- the law's ledger once row and step stand -/
def St1 (h₀ : Heap) (L : Addr) (h : Heap) (D1 : Addr) (us1 : List Value) (c1 : Nat) (ms1 : List Int) (led : Led) : Prop :=
  News h₀ L h led ∧ Tab0 led ∧ (D1, listOf us1.toArray c1) ∈ led ∧ (∃ oR : Obj, oR.data = Data.cell (some (Value.ref D1)) ∧ (L + 1, oR) ∈ led) ∧ ∃ (oS : Obj) (tS : Tok), oS.data = Data.cell (some (Value.int (stepI ms1) tS)) ∧ (L + 1 + 1, oS) ∈ led
/-- .. once the items stand -/
def St2 (h₀ : Heap) (L : Addr) (h : Heap) (D1 : Addr) (us1 : List Value) (c1 : Nat) (lI : Addr) (usI : List Value) (qs : List (Int × Int)) (led : Led) : Prop :=
  News h₀ L h led ∧ Tab0 led ∧ (D1, listOf us1.toArray c1) ∈ led ∧ (∃ oR : Obj, oR.data = Data.cell (some (Value.ref D1)) ∧ (L + 1, oR) ∈ led) ∧ ∃ cI, (lI, listOf usI.toArray cI) ∈ led ∧ IsQs led usI qs
theorem Tab0.swap {a b : Led} (h : Tab0 (a ++ b)) : Tab0 (b ++ a) := by
  obtain ⟨rest, q1, q2, q3⟩ := h
  exact ⟨rest, fun q hq => led_swap q (q1 q hq), q2, fun q hq => q3 q (led_swap q hq)⟩
def sharesQ (ms : List Int) : List (Int × Int) := [(0, 1), (1, 1)] ++ (List.range 3).map (shareQ ms)
/-- all that the law asks of the numbers -/
def NumAll (f : List (Int × Int) → Int × Int → Int × Int) (fm : List (Int × Int) → Int × Int) (ms : List Int) (n : Nat) : Prop :=
  (∀ q ∈ itemsQ ms n, Bd q) ∧ Den (itemsQ ms n) ∧ QsFit (itemsQ ms n) (sharesQ ms) f ∧
  ∀ v : LawV, v.qs = itemsQ ms n → v.ss = sharesQ ms → v.many = n → v.rk.Perm v.qs → v.rk.Pairwise leQ → (∃ rs : List (Int × Int), rs.Perm v.qs ∧ rs.Pairwise leQ ∧ v.fo = v.ss.map (f rs)) →
    Num8 v ∧ Num9 v ∧ Num10 f v ∧ Num11 f fm v ∧ Num12 f v ∧ Num15 f v
theorem law_of_first (us : List Value) (qs ss : List (Int × Int)) (f : List (Int × Int) → Int × Int → Int × Int) {dp un : Nat} {gd : Option (List Code)} {cn : Str} {cs : Scope} {a : Addr} {ccd : Value} {cl : List (Str × Addr)} {outer : List Env} {A₀ : Around} {base h₀ : Heap} {L : Addr} {m : Str → Option Value} {nw : Led} {s : Shared}
    {Q E : Value → Shared → Prop} {l l2 : Addr} {n n2 : Nat} {us2 : List Value} (B : Below A₀ base outer h₀) (F : Fr h₀ L s.heap m) (X : (KK w.params).In h₀) (N : News h₀ L s.heap nw) (T : Top p loose mean mg mb h₀) (hk : cs.kind = .function) (tab : Tab0 nw)
    (hm : (l, listOf us.toArray n) ∈ nw) (hq : IsQs nw us qs) (hm2 : (l2, listOf us2.toArray n2) ∈ nw) (hq2 : IsQs nw us2 ss) (hs : Den qs) (h1 : 0 < qs.length) (h64 : qs.length < 64) (h642 : ss.length < 64) (hfit : QsFit qs ss f) (hd : dp + 40 < recursionLimit) (hu : un + 2000 < cLine)
    (ret : ∀ r all h' tk', Fr h₀ L h' m → News h₀ L h' all → HitNw all → (∀ p ∈ nw, p.2.cls ≠ .none → p ∈ all) → (∃ rs D c ys, rs.Perm qs ∧ rs.Pairwise leQ ∧ r = .ref D ∧ (D, listOf (List.toArray ys) c) ∈ all ∧ IsQs all ys (ss.map (f rs))) → Q r { s with heap := h', toks := tk' }) :
    wpAny (model LP w) (ktrTop dp un gd cn cs L a ccd cl outer) (call (.ref 248) [.ref l, .ref l2]) Q E s := by
  obtain ⟨rest, q1, q2, q3⟩ := tab
  have keep : ∀ p ∈ nw, p.2.cls ≠ .none → p ∈ rest := fun p hp hc => (q3 p hp).elim id fun e => absurd (by rw [e]) hc
  refine (law_of_con us qs ss f).useS B F X N q1 T hk ⟨l, n, l2, us2, n2, rfl, keep _ hm (by simp), hq.keep (fun p hp e => keep p hp (by rw [e]; simp)), keep _ hm2 (by simp), hq2.keep (fun p hp e => keep p hp (by rw [e]; simp)), hs, h1, h64, h642, hfit⟩ q2 (.inl rfl) hd hu ?_
  rintro r tl ps' h' tk' F' N' off hit _ ⟨rs, D, c, ys, o1, o2, o3, o4, o5⟩
  refine ret r _ h' tk' F' N' (HitNw.of q2 off hit) (fun p hp hc => List.mem_append.mpr (.inr (.tail _ (keep p hp hc)))) ⟨rs, D, c, ys, o1, o2, o3, List.mem_append.mpr (.inl o4), DatAll.mono (fun p hp => ?_) o5⟩
  rcases List.mem_append.mp hp with hp | hp
  · exact List.mem_append.mpr (.inl hp)
  · exact List.mem_append.mpr (.inr (.tail _ hp))
theorem end_cell2 {σ τ : Type} {C : Addr} {cst : Led} {obj : σ → Obj} {Facts : Led → σ → Prop} {x : Str} {stored : List Str} {m₀ : Str → Option Value} {P : τ → σ → Prop} {pre : τ} {h₀ : Heap} (c : σ) {tl tl2 : Led} {L : Addr} {m' : Str → Option Value} {own : Led} {s₁ : Shared} {h' : Heap} {tk : Nat}
    (h0 : KdSep own tl (C :: cst.map (·.1))) (F : Fr h₀ L h' m') (N : News h₀ L h' ((C, obj c) :: (tl2 ++ (cst ++ (tl ++ own))))) (offC : ∀ q ∈ tl2, C ≠ q.1) (off : OwnOff tl2 ((cst ++ (tl ++ own)).map (·.1)))
    (hr : ∀ z, z ≠ x → stored.contains z = false → m' z = m₀ z) (hf : Facts (cst ++ (tl2 ++ tl)) c) (hp : P pre c) :
    InvEndG h₀ L (KdS (fun c => [(C, obj c)]) cst (fun _ => []) Facts x stored m₀ P (C :: cst.map (·.1)) pre) own s₁ { s₁ with heap := h', toks := tk } :=
  kd_end (Led := fun c => [(C, obj c)]) c tl2 h0 F N (by intro p hp; simp only [List.mem_append, List.mem_cons, List.not_mem_nil, or_false] at hp ⊢; grind) (by intro p hp; simp only [List.mem_append, List.mem_cons] at hp ⊢; grind) rfl (fun q hq b hb => by
    rcases List.mem_cons.mp hb with rfl | hb
    · exact offC q hq
    · exact off_ne (off_in off) q hq b hb) (off_own off) (fun _ h => nomatch h) (fun z h1 _ h3 => hr z h1 h3) hf hp
/-- .. once the shares stand -/
def St4 (h₀ : Heap) (L : Addr) (h : Heap) (lI : Addr) (usI : List Value) (cI : Nat) (qs : List (Int × Int)) (lS : Addr) (usS : List Value) (cS : Nat) (ss : List (Int × Int)) (led : Led) : Prop :=
  News h₀ L h led ∧ Tab0 led ∧ ((lI, listOf usI.toArray cI) ∈ led ∧ IsQs led usI qs) ∧ (lS, listOf usS.toArray cS) ∈ led ∧ IsQs led usS ss
local macro_rules | `(tactic| walk_at "execs cons") => `(tactic| ((with_reducible show wpAny _ _ (execs (PySem.Stmt.If (PySem.Expr.BoolOp _ _ _) _ _ _ :: _) _) _ _ _); refine hold ?_))
set_option maxHeartbeats 8000000 in
theorem law_s4 (f : List (Int × Int) → Int × Int → Int × Int) (fm : List (Int × Int) → Int × Int) {ms1 : List Int} {n : Nat} (num : NumAll f fm ms1 n) {fa : Addr} {cd : Value} {dp un : Nat} {gd : Option (List Code)} {outer : List Env} {A₀ : Around} {base h₀ : Heap} {L D1 lI : Addr} {us1 usI : List Value} {c1 : Nat} {mt : Tok} {s : Shared} {m : Str → Option Value} {led : Led} {Q : Flow → Shared → Prop}
    (B : Below A₀ base outer h₀) (F : Fr h₀ L s.heap m) (X : (KK w.params).In h₀) (T : Top p loose mean mg mb h₀) (st : St2 h₀ L s.heap D1 us1 c1 lI usI (itemsQ ms1 n) led) (hrow : RowIs us1 ms1 24) (hn0 : 1 ≤ n) (hn8 : n ≤ 8) (v1 : m (Str.ofString "items") = some (.ref lI)) (v5 : m (Str.ofString "many") = some (.int (n : Int) mt)) (hd : dp + 100 < recursionLimit) (hu : un + 4000 < cLine) (hQ : LEnd h₀ L s Q) :
    wpAny (model LP w) (ktrTop dp un gd (lawLit w).val.qual (lawLit w).val.scope L fa cd (cellsFrom (L + 1) (lawLit w).val.scope.names []) outer) (execs ((lawLit w).val.body.drop 4) (lawEnv w L fa cd)) Q (fun _ _ => False) s := by
  have hT : Touch PySem.Challenge.rw_ov0057_01 KK := by (k_fill; trivial)
  clear hT
  k_with "pyIter ref" => (refine hold ?_)
  obtain ⟨nb, nd, nf, nall⟩ := num
  obtain ⟨Nf, htab, hD2, ⟨oR, dR, hR⟩, cI, hI, hqs⟩ := st
  dsimp only [lawLit, lawEnv, List.drop]
  (try k_fold)
  have hlenI : (itemsQ ms1 n).length = n := by simp [itemsQ]
  k_steps
  show wpAny _ _ _ _ _ _
  (rename Fr _ _ _ _ => lF'); (rename News _ _ _ _ => lN'); (rename IsRange _ _ _ _ _ _ _ _ => hRg)
  (rename Heap => hx)
  have lA := ‹∀ p ∈ led, p.1 < _›
  have lB := ‹_ ∧ AllLt _ led›
  have lC := ‹_ ∧ _ ∧ AllLt _ led›
  obtain ⟨lS, cst, us0, k0, F0, N0, hne0, hq0, tab0, sub0⟩ : ∃ (lS : Addr) (cst : Led) (us0 : List Value) (k0 : Nat), Fr h₀ L hx (fun y => if y = Str.ofString "shares" then some (.ref lS) else m y) ∧ News h₀ L hx ((lS, listOf us0.toArray k0) :: cst) ∧ (∀ p ∈ cst, p.1 ≠ lS) ∧ IsQs cst us0 [(0, 1), (1, 1)] ∧ Tab0 cst ∧ ∀ p ∈ led, p ∈ cst :=
    ⟨_, _, [_, _], _, lF', lN', fun p hp => Nat.ne_of_lt (lt_cons lC.1 (lt_cons lC.2.1 (lt_of_all lC.2.2)) p hp), .cons (IsQ.dat (n := 0) (d := 1) (.mk (.tail _ (.head _)))) (.cons (IsQ.dat (n := 1) (d := 1) (.mk (.head _))) .nil), (htab.cons fun p hp => Nat.ne_of_lt (lA p hp)).cons fun p hp => Nat.ne_of_lt (lt_cons lB.1 (lt_of_all lB.2) p hp), fun p hp => .tail _ (.tail _ hp)⟩
  clear lA lB lC
  refine' kd_range (σ := List Value × List (Int × Int) × Nat) (n := 3) (fun c => [(lS, listOf c.1.toArray c.2.2)]) cst (fun _ => []) (fun nx c => IsQs nx c.1 c.2.1) [] (fun pre c => c.2.1 = [(0, 1), (1, 1)] ++ (List.range pre.length).map (shareQ ms1)) (lS :: cst.map (·.1)) (us0, [(0, 1), (1, 1)], k0) rfl hRg (small_one (by decide) (by decide) (by decide) (by decide)) (by rw [rangeSize_nat]; rfl) F0 N0 (fun p hp => by simpa using hp) (fun _ => rfl) (by rw [List.append_nil]; exact hq0) (fun _ h => nomatch h) rfl
      (fun c tl pre k t u h tk own hk hpl hS hO hF hP F1 N1 => ?_) (fun c tl u h tk hO hF hP F1 N1 => ?_)
  · clear lF' lN' hRg F0 N0
    obtain rfl : k = (pre.length : Int) := by omega
    obtain ⟨us9, qs9, k9⟩ := c
    dsimp only at hF hP
    have hF9 : IsQs (cst ++ (tl ++ own)) us9 qs9 := DatAll.mono led_own hF
    have hul : us9.length = qs9.length := by rw [DatAll.length hF, List.length_map]
    have hql : qs9.length = 2 + pre.length := by rw [hP]; simp; omega
    have hR2 : (L + 1, oR) ∈ (cst ++ (tl ++ own) : Led) := List.mem_append.mpr (.inl (sub0 _ hR))
    have hD3 : (D1, listOf us1.toArray c1) ∈ (cst ++ (tl ++ own) : Led) := List.mem_append.mpr (.inl (sub0 _ hD2))
    have hne9 : ∀ p ∈ (cst ++ (tl ++ own) : Led), p.1 ≠ lS := by
      intro p hp
      rcases List.mem_append.mp hp with hp | hp
      · exact hne0 p hp
      · exact hO p hp lS (.head _)
    replace N1 : News h₀ L h ((lS, listOf us9.toArray k9) :: (cst ++ (tl ++ own))) := N1
    have hb13 := fmod_pos (ms1.getD (10 + (pre.length : Int)).toNat 0) (b := 13) (by decide)
    have h10 : (10 + (pre.length : Int)).toNat = 10 + pre.length := by omega
    generalize hbs : cst ++ (tl ++ own) = bs at N1 hR2 hD3 hne9 hF9
    k_steps
    (rename Fr _ _ _ _ => lF'); (rename News _ _ _ _ => lN')
    have lo := ‹OwnOff _ (List.map _ ((lS, _) :: bs))›
    have hmem := ‹(_, ({ cls := .type "tuple", data := .seq #[.int (lowN _ _) _, .int (lowD _ _) _] _ } : Obj)) ∈ (_ : Led)›
    obtain ⟨tl9, N9, lo9, hmem9⟩ : ∃ tl9 : Led, News h₀ L _ ((lS, listOf us9.toArray k9) :: (tl9 ++ bs)) ∧ OwnOff tl9 (((lS, listOf us9.toArray k9) :: bs).map (·.1)) ∧ _ ∈ tl9 := ⟨_, fun q hq => lN' q (by
      rcases List.mem_cons.mp hq with rfl | hq
      · exact List.mem_append.mpr (.inr (.head _))
      · rcases List.mem_append.mp hq with hq | hq
        · exact List.mem_append.mpr (.inl hq)
        · exact List.mem_append.mpr (.inr (.tail _ hq))), lo, hmem⟩
    have hne10 : ∀ p ∈ (tl9 ++ bs : Led), p.1 ≠ lS := by
      intro p hp
      rcases List.mem_append.mp hp with hp | hp
      · exact lo9 p hp lS (.head _)
      · exact hne9 p hp
    k_dflt (refine append_q (D := lS) (us := us9) lF' N9 hne10 (by omega) ?_)
    intro h9 F9 N10
    clear lN' lo hmem N9
    k_steps
    subst hbs
    refine end_cell2 (C := lS) (obj := fun c : List Value × List (Int × Int) × Nat => listOf c.1.toArray c.2.2) (tl2 := tl9) (us9 ++ [_], qs9 ++ [shareQ ms1 pre.length], k9 + 1) hS (by assumption) N10 (fun q hq e => lo9 q hq lS (.head _) e.symm) (fun q hq b hb => lo9 q hq b (.tail _ hb)) ?_ ?_ ?_
    · intro z h1 h2; simp only [h1, if_false, kstB, List.contains_nil, Bool.false_eq_true]
    · show DatAll _ _ (List.map rD _)
      rw [List.map_append]
      refine DatAll.append (DatAll.mono (fun p hp => ?_) hF) (.one (IsQ.dat (n := (shareQ ms1 pre.length).1) (d := (shareQ ms1 pre.length).2) (IsQ.mk2 (List.mem_append.mpr (.inr (List.mem_append.mpr (.inl hmem9)))) (by unfold shareQ lowQ; rw [h10]) (by unfold shareQ lowQ; rw [h10]))))
      rcases List.mem_append.mp hp with hp | hp
      · exact List.mem_append.mpr (.inl hp)
      · exact List.mem_append.mpr (.inr (List.mem_append.mpr (.inr hp)))
    · show qs9 ++ [shareQ ms1 pre.length] = _
      rw [hP, List.length_append, List.length_singleton, List.range_succ, List.map_append, List.append_assoc]
      rfl
  · k_dflt (dsimp only)
    obtain ⟨us9, qs9, k9⟩ := c
    dsimp only at hF hP
    have hss : qs9 = sharesQ ms1 := hP
    subst hss
    have hT4 : Tab0 ((lS, listOf us9.toArray k9) :: (cst ++ tl)) := (tab0.grow (fun p hp b hb => hO p hp b (.tail _ hb))).swap.cons fun p hp => by
      rcases List.mem_append.mp hp with hp | hp
      · exact hne0 p hp
      · exact hO p hp lS (.head _)
    refine abs_led (St4 h₀ L h lI usI cI (itemsQ ms1 n) lS us9 k9 (sharesQ ms1)) ⟨(show News h₀ L h ((lS, listOf us9.toArray k9) :: (cst ++ tl)) from N1), hT4, ⟨.tail _ (List.mem_append.mpr (.inl (sub0 _ hI))), DatAll.mono (fun p hp => .tail _ (List.mem_append.mpr (.inl (sub0 _ hp)))) hqs⟩, .head _, DatAll.mono (fun p hp => .tail _ hp) hF⟩ ?_
    clear N1 hT4 hF hP tab0 sub0 hne0 hq0 N0 F0 lF' lN' hRg hI hqs hD2 hR dR htab
    intro led ⟨lN', htab, ⟨mI, qI⟩, mS, qS⟩
    have hsl : (sharesQ ms1).length = 5 := by simp [sharesQ]
    k_steps
    show wpAny _ _ _ _ _ _
    (rename Fr _ _ _ _ => lF'); (rename News _ _ _ _ => lN')
    k_dflt (refine Con.use (law_ranked_con (itemsQ ms1 n)) B lF' X lN' T rfl ⟨lI, usI, cI, rfl, mI, qI, nb, by omega⟩ (by omega) (by omega) ?_)
    intro r2 tl2 h2 tk2 F2 N2 off2 out2
    obtain ⟨lR, cR, usR, rk, rfl, mR, qR, hpk, hwk⟩ := out2
    refine abs_led (fun led => St4 h₀ L h2 lI usI cI (itemsQ ms1 n) lS us9 k9 (sharesQ ms1) led ∧ (lR, listOf usR.toArray cR) ∈ led ∧ IsQs led usR rk) ⟨⟨N2, htab.grow off2, ⟨List.mem_append.mpr (.inr mI), DatAll.mono (fun p hp => List.mem_append.mpr (.inr hp)) qI⟩, List.mem_append.mpr (.inr mS), DatAll.mono (fun p hp => List.mem_append.mpr (.inr hp)) qS⟩, List.mem_append.mpr (.inl mR), qR⟩ ?_
    clear N2 off2 lF' lN' htab mI qI mS qS mR qR
    intro led ⟨⟨lN', htab, ⟨mI, qI⟩, mS, qS⟩, mR, qR⟩
    k_steps
    show wpAny _ _ _ _ _ _
    (rename Fr _ _ _ _ => lF'); (rename News _ _ _ _ => lN')
    k_dflt (refine law_of_first usI (itemsQ ms1 n) (sharesQ ms1) f B lF' X lN' T rfl htab mI qI mS qS nd (by omega) (by omega) (by omega) nf (by omega) (by omega) ?_)
    intro r3 all h3 tk3 F3 N3 hh3 sub3 out3
    obtain ⟨rs, lF, cF, usF, hp3, hw3, rfl, mF, qF⟩ := out3
    have sub4 : ∀ p ∈ led, p.2.cls = .type "tuple" → p ∈ all := fun p hp e => sub3 p hp (by rw [e]; simp)
    have st4 : LSt h₀ L ⟨lI, lS, lF, lR, usI, us9, usF, usR, cI, k9, cF, cR, itemsQ ms1 n, sharesQ ms1, (sharesQ ms1).map (f rs), rk, n, mt⟩ h3 all :=
      ⟨N3, hh3, ⟨sub3 _ mI (by simp), qI.keep sub4⟩, ⟨sub3 _ mS (by simp), qS.keep sub4⟩, ⟨mF, qF⟩, sub3 _ mR (by simp), qR.keep sub4⟩
    obtain ⟨m8, m9, m10, m11, m12, m15⟩ := nall ⟨lI, lS, lF, lR, usI, us9, usF, usR, cI, k9, cF, cR, itemsQ ms1 n, sharesQ ms1, (sharesQ ms1).map (f rs), rk, n, mt⟩ rfl rfl rfl hpk hwk ⟨rs, hp3, hw3, rfl⟩
    clear lF' lN' htab mI qI mS qS mR qR sub3 sub4 mF qF
    k_steps
    show wpAny _ _ _ _ _ _
    (rename Fr _ _ _ _ => lF'); (rename News _ _ _ _ => lN')
    exact law_s8 f fm _ m8 m9 m10 m11 m12 m15 B lF' X T (st4.mono lN' hh3 (fun p hp => hp)) ⟨by (try simp only [kstB]); (try dsimp only); (repeat (rw [if_neg (by decide)])); first | exact v1 | exact v5 | exact if_pos trivial | exact if_pos rfl, by (try simp only [kstB]); (try dsimp only); (repeat (rw [if_neg (by decide)])); first | exact v1 | exact v5 | exact if_pos trivial | exact if_pos rfl, by (try simp only [kstB]); (try dsimp only); (repeat (rw [if_neg (by decide)])); first | exact v1 | exact v5 | exact if_pos trivial | exact if_pos rfl, by (try simp only [kstB]); (try dsimp only); (repeat (rw [if_neg (by decide)])); first | exact v1 | exact v5 | exact if_pos trivial | exact if_pos rfl, by (try simp only [kstB]); (try dsimp only); (repeat (rw [if_neg (by decide)])); first | exact v1 | exact v5 | exact if_pos trivial | exact if_pos rfl⟩ hd hu (fun h' tk' m' all a b c => hQ h' tk' m' all a b c)



def ofR (x : Rat) : Int × Int := (x.num, (x.den : Int))
def toR (q : Int × Int) : Rat := Rat.divInt q.1 q.2
theorem toR_ofR (x : Rat) : toR (ofR x) = x := Rat.num_divInt_den x
theorem den_pos (x : Rat) : 0 < (x.den : Int) := by have := x.den_pos; omega
theorem lowQ_of {n d : Int} (h : 0 < d) : lowQ n d = ofR (Rat.divInt n d) := by
  have hg : Int.gcd d n = Int.gcd n d := Int.gcd_comm ..
  have hgp : 0 ≤ (Int.gcd n d : Int) := by omega
  unfold lowQ lowN lowD ofR
  rw [Rat.num_divInt, Rat.den_divInt, if_neg (by omega), hg, Int.sign_eq_one_of_pos h, Int.one_mul, Int.fdiv_eq_ediv_of_nonneg _ hgp, Int.fdiv_eq_ediv_of_nonneg _ hgp]
  refine Prod.ext rfl ?_
  show d / (Int.gcd n d : Int) = ((d.natAbs / Int.gcd n d : Nat) : Int)
  rw [Int.natCast_ediv, Int.natAbs_of_nonneg (Int.le_of_lt h)]
theorem addQ_of (x y : Rat) : addQ (ofR x) (ofR y) = ofR (x + y) := by
  have := lowQ_of (n := x.num * y.den + y.num * x.den) (Int.mul_pos (den_pos x) (den_pos y))
  rw [← Rat.divInt_add_divInt _ _ (Int.ne_of_gt (den_pos x)) (Int.ne_of_gt (den_pos y)), Rat.num_divInt_den, Rat.num_divInt_den] at this
  exact this
theorem mulQ_of (x y : Rat) : mulQ (ofR x) (ofR y) = ofR (x * y) := by
  have := lowQ_of (n := x.num * y.num) (Int.mul_pos (den_pos x) (den_pos y))
  rw [← Rat.divInt_mul_divInt, Rat.num_divInt_den, Rat.num_divInt_den] at this
  exact this
theorem negQ_of (x : Rat) : negQ (ofR x) = ofR (-x) := by
  unfold negQ ofR
  refine Prod.ext ?_ ?_
  · show 0 - x.num = (-x).num
    rw [Rat.neg_num]; omega
  · show (x.den : Int) = ((-x).den : Int)
    rw [Rat.neg_den]
theorem subQ_of (x y : Rat) : subQ (ofR x) (ofR y) = ofR (x - y) := by
  have h : subQ (ofR x) (ofR y) = addQ (ofR x) (negQ (ofR y)) := rfl
  rw [h, negQ_of, addQ_of, Rat.sub_eq_add_neg]
theorem ofR_int (n : Int) : (n, (1 : Int)) = ofR (n : Rat) := rfl
theorem flQ_of (x : Rat) : flQ (ofR x) = x.floor := by
  unfold flQ ofR
  rw [Rat.floor_def, Int.fdiv_eq_ediv_of_nonneg _ (Int.le_of_lt (den_pos x))]
theorem placeQ_of (n : Nat) (p : Rat) : placeQ n (ofR p) = ofR (p * (((n : Int) - 1 : Int) : Rat)) := by
  unfold placeQ
  rw [ofR_int, mulQ_of]
theorem partQ_of (n : Nat) (p : Rat) : partQ n (ofR p) = ofR (p * (((n : Int) - 1 : Int) : Rat) - ((p * (((n : Int) - 1 : Int) : Rat)).floor : Rat)) := by
  unfold partQ
  rw [placeQ_of, flQ_of, ofR_int, subQ_of]
theorem leQ_of (x y : Rat) : leQ (ofR x) (ofR y) ↔ x ≤ y := (Rat.le_iff x y).symm
theorem ltQ_of (x y : Rat) : (ofR x).1 * (ofR y).2 < (ofR y).1 * (ofR x).2 ↔ x < y := (Rat.lt_iff x y).symm
theorem num_zero {x : Rat} : (ofR x).1 = 0 ↔ x = 0 := Rat.num_eq_zero
/-- the quantile of a list of numbers -/
def quantR (Y : List Rat) (p : Rat) : Rat :=
  let t := p * (((Y.length : Int) - 1 : Int) : Rat)
  Y.getD t.floor.toNat 0 + (t - (t.floor : Rat)) * (Y.getD (t.floor + 1).toNat 0 - Y.getD t.floor.toNat 0)
def quantF (rs : List (Int × Int)) (p : Int × Int) : Int × Int :=
  let low := flQ (placeQ rs.length p)
  if (partQ rs.length p).1 = 0 then rs.getD low.toNat (0, 1)
  else addQ (rs.getD low.toNat (0, 1)) (mulQ (partQ rs.length p) (subQ (rs.getD (low + 1).toNat (0, 1)) (rs.getD low.toNat (0, 1))))
theorem getD_of (Y : List Rat) (i : Nat) : (Y.map ofR).getD i (0, 1) = ofR (Y.getD i 0) := by
  rw [List.getD_eq_getElem?_getD, List.getD_eq_getElem?_getD, List.getElem?_map]
  cases Y[i]? <;> rfl
theorem quantF_of (Y : List Rat) (p : Rat) : quantF (Y.map ofR) (ofR p) = ofR (quantR Y p) := by
  unfold quantF quantR
  simp only [List.length_map, partQ_of, placeQ_of, flQ_of, getD_of, num_zero]
  split
  · rename_i h
    rw [h, Rat.zero_mul, Rat.add_zero]
  · rw [subQ_of, mulQ_of, addQ_of]
theorem lowQ_le {n d B : Int} (h : 0 < d) (h1 : -B ≤ n) (h2 : n ≤ B) : -B ≤ (lowQ n d).1 ∧ (lowQ n d).1 ≤ B ∧ 0 < (lowQ n d).2 ∧ (lowQ n d).2 ≤ d := by
  have hg : 0 < (Int.gcd n d : Int) := gcd_pos h
  unfold lowQ lowN lowD
  simp only [Int.fdiv_eq_ediv_of_nonneg _ (Int.le_of_lt hg)]
  obtain ⟨a, ha⟩ := Int.gcd_dvd_left (a := n) (b := d)
  obtain ⟨b, hb⟩ := Int.gcd_dvd_right (a := n) (b := d)
  generalize hG : (Int.gcd n d : Int) = G at *
  have e1 : n / G = a := by rw [ha, Int.mul_ediv_cancel_left _ (Int.ne_of_gt hg)]
  have e2 : d / G = b := by rw [hb, Int.mul_ediv_cancel_left _ (Int.ne_of_gt hg)]
  rw [e1, e2]
  have hb0 : 0 < b := by
    rw [hb] at h
    rcases Int.lt_or_le 0 b with h0 | h0
    · exact h0
    · have := Int.mul_le_mul_of_nonneg_left h0 (Int.le_of_lt hg)
      omega
  have hB : 0 ≤ B := by omega
  refine ⟨?_, ?_, hb0, ?_⟩
  · rcases Int.lt_or_le a 0 with h0 | h0
    · have : G * a ≤ 1 * a := Int.mul_le_mul_of_nonpos_right (by omega) (by omega)
      omega
    · omega
  · rcases Int.lt_or_le a 0 with h0 | h0
    · omega
    · have : 1 * a ≤ G * a := Int.mul_le_mul_of_nonneg_right (by omega) h0
      omega
  · have : 1 * b ≤ G * b := Int.mul_le_mul_of_nonneg_right (by omega) (Int.le_of_lt hb0)
    omega



theorem perm_ofR {rs : List (Int × Int)} {X : List Rat} (hp : rs.Perm (X.map ofR)) (hw : rs.Pairwise leQ) : ∃ Y : List Rat, rs = Y.map ofR ∧ Y.Perm X ∧ Y.Pairwise (· ≤ ·) := by
  have e1 : (X.map ofR).map toR = X := by
    rw [List.map_map]
    have : toR ∘ ofR = id := funext toR_ofR
    rw [this, List.map_id]
  have e2 : rs = (rs.map toR).map ofR := by
    rw [List.map_map]
    have h : rs.map (ofR ∘ toR) = rs.map id := List.map_congr_left fun q hq => by
      obtain ⟨x, _, rfl⟩ := List.mem_map.mp (hp.mem_iff.mp hq)
      show ofR (toR (ofR x)) = ofR x
      rw [toR_ofR]
    rw [h, List.map_id]
  refine ⟨rs.map toR, e2, ?_, ?_⟩
  · have := hp.map toR
    rw [e1] at this
    exact this
  · rw [e2, List.pairwise_map] at hw
    exact hw.imp fun {a b} h => (leQ_of a b).mp h
theorem sorted_eq {X Y : List Rat} (p : X.Perm Y) (hx : X.Pairwise (· ≤ ·)) (hy : Y.Pairwise (· ≤ ·)) : X = Y :=
  List.Perm.eq_of_pairwise (fun _ _ _ _ h1 h2 => Rat.le_antisymm h1 h2) hx hy p
theorem sorted_at {Y : List Rat} (hy : Y.Pairwise (· ≤ ·)) {i j : Nat} (h : i ≤ j) (hj : j < Y.length) : Y.getD i 0 ≤ Y.getD j 0 := by
  rcases Nat.lt_or_eq_of_le h with h | rfl
  · have hi : i < Y.length := by omega
    have := (List.pairwise_iff_getElem.mp hy) i j hi hj h
    simpa [hi, hj] using this
  · exact Rat.le_refl
/-- where a share falls -/
theorem fall {p : Rat} {n : Nat} (h0 : 0 ≤ p) (h1 : p ≤ 1) (hn : 1 ≤ n) : ∃ k : Nat, (p * (((n : Int) - 1 : Int) : Rat)).floor = (k : Int) ∧ k < n ∧ (((k : Int) : Rat)) ≤ p * (((n : Int) - 1 : Int) : Rat) ∧ p * (((n : Int) - 1 : Int) : Rat) < ((k : Int) : Rat) + 1 ∧ ((((k : Int) : Rat)) < p * (((n : Int) - 1 : Int) : Rat) → k + 1 < n) := by
  have hN : (0 : Rat) ≤ (((n : Int) - 1 : Int) : Rat) := Rat.intCast_le_intCast.mpr (show (0 : Int) ≤ (n : Int) - 1 by omega)
  have ht0 : 0 ≤ p * (((n : Int) - 1 : Int) : Rat) := Rat.mul_nonneg h0 hN
  have ht1 : p * (((n : Int) - 1 : Int) : Rat) ≤ (((n : Int) - 1 : Int) : Rat) := by
    have := Rat.mul_le_mul_of_nonneg_right h1 hN
    grind
  generalize hT : p * (((n : Int) - 1 : Int) : Rat) = t at *
  have f1 := Rat.floor_le t
  have f2 := Rat.lt_floor_add_one t
  have f0 : 0 ≤ t.floor := Rat.le_floor_iff.mpr ht0
  have f3 : t.floor ≤ (n : Int) - 1 := Rat.intCast_le_intCast.mp (Rat.le_trans f1 ht1)
  refine ⟨t.floor.toNat, by omega, by omega, ?_, ?_, fun h => ?_⟩
  · rw [Int.toNat_of_nonneg f0]; exact f1
  · rw [Int.toNat_of_nonneg f0]; grind
  · rw [Int.toNat_of_nonneg f0] at h
    have : (t.floor : Rat) < (((n : Int) - 1 : Int) : Rat) := by grind
    have := Rat.intCast_lt_intCast.mp this
    omega
theorem quantR_at {Y : List Rat} {p : Rat} {k : Nat} (h : (p * (((Y.length : Int) - 1 : Int) : Rat)).floor = (k : Int)) : quantR Y p = Y.getD k 0 + (p * (((Y.length : Int) - 1 : Int) : Rat) - ((k : Int) : Rat)) * (Y.getD (k + 1) 0 - Y.getD k 0) := by
  unfold quantR
  simp only [h]
  have e1 : ((k : Int)).toNat = k := by omega
  have e2 : ((k : Int) + 1).toNat = k + 1 := by omega
  rw [e1, e2]
theorem floor_of {t : Rat} {k : Int} (h : (k : Rat) ≤ t) (h2 : t < (k : Rat) + 1) : t.floor = k := by
  have h3 := Rat.le_floor_iff.mpr h
  have h4 : (t.floor : Rat) < ((k + 1 : Int) : Rat) := by have := Rat.floor_le t; grind
  have := Rat.intCast_lt_intCast.mp h4
  omega
/-- at a whole place the quantile is the item there -/
theorem quantR_whole {Y : List Rat} {p : Rat} {k : Nat} (h : p * (((Y.length : Int) - 1 : Int) : Rat) = ((k : Int) : Rat)) : quantR Y p = Y.getD k 0 := by
  have hf : (p * (((Y.length : Int) - 1 : Int) : Rat)).floor = (k : Int) := by rw [h, Rat.floor_intCast]
  rw [quantR_at hf, h]
  grind
theorem quantR_mono {Y : List Rat} (hy : Y.Pairwise (· ≤ ·)) (hn : 1 ≤ Y.length) {p q : Rat} (h0 : 0 ≤ p) (h : p ≤ q) (h1 : q ≤ 1) : quantR Y p ≤ quantR Y q := by
  obtain ⟨k, a1, a2, a3, a4, a5⟩ := fall (n := Y.length) h0 (Rat.le_trans h h1) hn
  obtain ⟨l, b1, b2, b3, b4, b5⟩ := fall (n := Y.length) (Rat.le_trans h0 h) h1 hn
  have hN : (0 : Rat) ≤ (((Y.length : Int) - 1 : Int) : Rat) := Rat.intCast_le_intCast.mpr (show (0 : Int) ≤ (Y.length : Int) - 1 by omega)
  have ht := Rat.mul_le_mul_of_nonneg_right h hN
  rw [quantR_at a1, quantR_at b1]
  generalize p * (((Y.length : Int) - 1 : Int) : Rat) = s at *
  generalize q * (((Y.length : Int) - 1 : Int) : Rat) = t at *
  have hkl : k ≤ l := by
    have : ((k : Int) : Rat) < ((l + 1 : Int) : Rat) := by grind
    have := Rat.intCast_lt_intCast.mp this
    omega
  have lastq : Y.getD l 0 ≤ Y.getD l 0 + (t - ((l : Int) : Rat)) * (Y.getD (l + 1) 0 - Y.getD l 0) := by
    by_cases e : ((l : Int) : Rat) < t
    · have := sorted_at hy (Nat.le_succ l) (b5 e)
      have := Rat.mul_nonneg (show 0 ≤ t - ((l : Int) : Rat) by grind) (show 0 ≤ Y.getD (l + 1) 0 - Y.getD l 0 by grind)
      grind
    · have : t - ((l : Int) : Rat) = 0 := by grind
      rw [this]; grind
  rcases Nat.lt_or_eq_of_le hkl with hlt | rfl
  · have m1 := sorted_at hy (Nat.le_succ k) (show k + 1 < Y.length by omega)
    have m2 := sorted_at hy (show k + 1 ≤ l by omega) b2
    have : Y.getD k 0 + (s - ((k : Int) : Rat)) * (Y.getD (k + 1) 0 - Y.getD k 0) ≤ Y.getD (k + 1) 0 := by
      have := Rat.mul_le_mul_of_nonneg_right (show s - ((k : Int) : Rat) ≤ 1 by grind) (show 0 ≤ Y.getD (k + 1) 0 - Y.getD k 0 by grind)
      grind
    exact Rat.le_trans this (Rat.le_trans m2 lastq)
  · by_cases e : ((k : Int) : Rat) < t
    · have m1 := sorted_at hy (Nat.le_succ k) (b5 e)
      have := Rat.mul_le_mul_of_nonneg_right (show s - ((k : Int) : Rat) ≤ t - ((k : Int) : Rat) by grind) (show 0 ≤ Y.getD (k + 1) 0 - Y.getD k 0 by grind)
      grind
    · have e1 : t - ((k : Int) : Rat) = 0 := by grind
      have e2 : s - ((k : Int) : Rat) = 0 := by grind
      rw [e1, e2]; exact Rat.le_refl
theorem quantR_moved {Y : List Rat} {p : Rat} (hn : 1 ≤ Y.length) (h0 : 0 ≤ p) (h1 : p ≤ 1) : quantR (Y.map fun x => 3 * x + 5) p = 3 * quantR Y p + 5 := by
  obtain ⟨k, a1, a2, a3, a4, a5⟩ := fall (n := Y.length) h0 h1 hn
  have a1' : (p * ((((Y.map fun x => 3 * x + 5).length : Int) - 1 : Int) : Rat)).floor = (k : Int) := by rw [List.length_map]; exact a1
  rw [quantR_at a1, quantR_at a1', List.length_map]
  have g : ∀ i, i < Y.length → (Y.map fun x => 3 * x + 5).getD i 0 = 3 * Y.getD i 0 + 5 := fun i hi => by simp [hi]
  rw [g k a2]
  generalize p * (((Y.length : Int) - 1 : Int) : Rat) = s at *
  by_cases e : ((k : Int) : Rat) < s
  · rw [g (k + 1) (a5 e)]; grind
  · have e1 : s - ((k : Int) : Rat) = 0 := by grind
    rw [e1]; grind
theorem quantR_mirror {Y : List Rat} {p : Rat} (hn : 1 ≤ Y.length) (h0 : 0 ≤ p) (h1 : p ≤ 1) : quantR (Y.map fun x => -x).reverse (1 - p) = -quantR Y p := by
  obtain ⟨k, a1, a2, a3, a4, a5⟩ := fall (n := Y.length) h0 h1 hn
  rw [quantR_at a1]
  have hlen : (Y.map fun x => -x).reverse.length = Y.length := by simp
  have g : ∀ i j, i + j + 1 = Y.length → (Y.map fun x => -x).reverse.getD i 0 = -Y.getD j 0 := fun i j hij => by
    have hi : i < Y.length := by omega
    have hj : j < Y.length := by omega
    have e : Y.length - 1 - i = j := by omega
    simp [List.getElem?_reverse, hi, hj, e]
  have hs : (1 - p) * (((Y.length : Int) - 1 : Int) : Rat) = (((Y.length : Int) - 1 : Int) : Rat) - p * (((Y.length : Int) - 1 : Int) : Rat) := by grind
  by_cases e : ((k : Int) : Rat) < p * (((Y.length : Int) - 1 : Int) : Rat)
  · have hk := a5 e
    have hc : ((((Y.length - 2 - k : Nat) : Int)) : Rat) = (((Y.length : Int) - 1 : Int) : Rat) - ((k : Int) : Rat) - 1 := by
      have : ((Y.length - 2 - k : Nat) : Int) = ((Y.length : Int) - 1) - k - 1 := by omega
      rw [this]; grind
    have b1 : ((1 - p) * ((((Y.map fun x => -x).reverse.length : Int) - 1 : Int) : Rat)).floor = ((Y.length - 2 - k : Nat) : Int) := by
      rw [hlen]
      refine floor_of ?_ ?_ <;> rw [hs, hc] <;> grind
    rw [quantR_at b1, hlen, hs, hc, g (Y.length - 2 - k) (k + 1) (by omega), g (Y.length - 2 - k + 1) k (by omega)]
    grind
  · have e1 : p * (((Y.length : Int) - 1 : Int) : Rat) = ((k : Int) : Rat) := by grind
    have hc : ((((Y.length - 1 - k : Nat) : Int)) : Rat) = (((Y.length : Int) - 1 : Int) : Rat) - ((k : Int) : Rat) := by
      have : ((Y.length - 1 - k : Nat) : Int) = ((Y.length : Int) - 1) - k := by omega
      rw [this]; grind
    rw [quantR_whole (k := Y.length - 1 - k) (by rw [hlen, hs, hc, e1]), g (Y.length - 1 - k) k (by omega), e1]
    grind



/-- the items' size -/
def Item (x : Rat) : Prop := -48 ≤ x.num ∧ x.num ≤ 48 ∧ (x.den : Int) ≤ 3
def Good (p : Rat) : Prop := 0 ≤ p ∧ p ≤ 1 ∧ (p.den : Int) ≤ 12
theorem Good.num {p : Rat} (h : Good p) : 0 ≤ p.num ∧ p.num ≤ (p.den : Int) ∧ 0 < (p.den : Int) ∧ (p.den : Int) ≤ 12 := by
  obtain ⟨a, b, c⟩ := h
  refine ⟨Rat.num_nonneg.mpr a, ?_, den_pos p, c⟩
  have := (Rat.le_iff p 1).mp b
  have e1 : (1 : Rat).num = 1 := rfl
  have e2 : (1 : Rat).den = 1 := rfl
  rw [e1, e2] at this
  omega
theorem lowQ_den {n d : Int} (h : 0 < d) : 0 < (lowQ n d).2 ∧ (lowQ n d).2 ≤ d := by
  have := lowQ_le (n := n) (B := n.natAbs) h (by omega) (by omega)
  exact ⟨this.2.2.1, this.2.2.2⟩
theorem mul_le {a b A B : Int} (h1 : -A ≤ a) (h2 : a ≤ A) (h3 : 0 ≤ b) (h4 : b ≤ B) : -(A * B) ≤ a * b ∧ a * b ≤ A * B := by
  have hA : 0 ≤ A := by omega
  have e1 : a * b ≤ A * b := Int.mul_le_mul_of_nonneg_right h2 h3
  have e2 : A * b ≤ A * B := Int.mul_le_mul_of_nonneg_left h4 hA
  have e3 : (-A) * b ≤ a * b := Int.mul_le_mul_of_nonneg_right h1 h3
  have e4 : (-A) * b = -(A * b) := Int.neg_mul ..
  omega
theorem mul_le2 {a b A B : Int} (h1 : -A ≤ a) (h2 : a ≤ A) (h3 : -B ≤ b) (h4 : b ≤ B) : -(A * B) ≤ a * b ∧ a * b ≤ A * B := by
  rcases Int.le_total 0 b with h | h
  · exact mul_le h1 h2 h h4
  · have := mul_le h1 h2 (b := -b) (B := B) (by omega) (by omega)
    rw [Int.mul_neg] at this
    omega
theorem addQ_le {a b : Int × Int} {A B D E : Int} (h1 : -A ≤ a.1) (h2 : a.1 ≤ A) (h3 : 0 < a.2) (h4 : a.2 ≤ D) (k1 : -B ≤ b.1) (k2 : b.1 ≤ B) (k3 : 0 < b.2) (k4 : b.2 ≤ E) :
    -(A * E + B * D) ≤ (addQ a b).1 ∧ (addQ a b).1 ≤ A * E + B * D ∧ 0 < (addQ a b).2 ∧ (addQ a b).2 ≤ D * E := by
  have m1 := mul_le h1 h2 (Int.le_of_lt k3) k4
  have m2 := mul_le k1 k2 (Int.le_of_lt h3) h4
  have m3 := mul_le (a := a.2) (b := b.2) (A := D) (B := E) (by omega) h4 (Int.le_of_lt k3) k4
  have := lowQ_le (n := a.1 * b.2 + b.1 * a.2) (d := a.2 * b.2) (B := A * E + B * D) (Int.mul_pos h3 k3) (by omega) (by omega)
  exact ⟨this.1, this.2.1, this.2.2.1, Int.le_trans this.2.2.2 m3.2⟩
theorem subQ_le {a b : Int × Int} {A B D E : Int} (h1 : -A ≤ a.1) (h2 : a.1 ≤ A) (h3 : 0 < a.2) (h4 : a.2 ≤ D) (k1 : -B ≤ b.1) (k2 : b.1 ≤ B) (k3 : 0 < b.2) (k4 : b.2 ≤ E) :
    -(A * E + B * D) ≤ (subQ a b).1 ∧ (subQ a b).1 ≤ A * E + B * D ∧ 0 < (subQ a b).2 ∧ (subQ a b).2 ≤ D * E :=
  addQ_le (b := (0 - b.1, b.2)) h1 h2 h3 h4 (by show -B ≤ 0 - b.1; omega) (by show 0 - b.1 ≤ B; omega) k3 k4
theorem mulQ_le {a b : Int × Int} {A B D E : Int} (h1 : -A ≤ a.1) (h2 : a.1 ≤ A) (h3 : 0 < a.2) (h4 : a.2 ≤ D) (k1 : -B ≤ b.1) (k2 : b.1 ≤ B) (k3 : 0 < b.2) (k4 : b.2 ≤ E) :
    -(A * B) ≤ (mulQ a b).1 ∧ (mulQ a b).1 ≤ A * B ∧ 0 < (mulQ a b).2 ∧ (mulQ a b).2 ≤ D * E := by
  have m1 := mul_le2 h1 h2 k1 k2
  have m3 := mul_le (a := a.2) (b := b.2) (A := D) (B := E) (by omega) h4 (Int.le_of_lt k3) k4
  have := lowQ_le (n := a.1 * b.1) (d := a.2 * b.2) (B := A * B) (Int.mul_pos h3 k3) (by omega) (by omega)
  exact ⟨this.1, this.2.1, this.2.2.1, Int.le_trans this.2.2.2 m3.2⟩
theorem item_at {Y : List Rat} (hY : ∀ x ∈ Y, Item x) (i : Nat) : -48 ≤ (ofR (Y.getD i 0)).1 ∧ (ofR (Y.getD i 0)).1 ≤ 48 ∧ 0 < (ofR (Y.getD i 0)).2 ∧ (ofR (Y.getD i 0)).2 ≤ 3 := by
  have h0 : Item (Y.getD i 0) := by
    by_cases h : i < Y.length
    · rw [List.getD_eq_getElem?_getD, List.getElem?_eq_getElem h]
      exact hY _ (List.getElem_mem h)
    · rw [List.getD_eq_getElem?_getD, List.getElem?_eq_none (Nat.le_of_not_lt h)]
      exact ⟨by decide, by decide, by decide⟩
  exact ⟨h0.1, h0.2.1, den_pos _, h0.2.2⟩
theorem at_ofR {Y : List Rat} {i : Nat} (h : i < Y.length) : (Y.map ofR)[i]? = some (ofR (Y.getD i 0)) := by
  rw [List.getElem?_map, List.getD_eq_getElem?_getD, List.getElem?_eq_getElem h]; rfl
theorem qfit {Y : List Rat} (hY : ∀ x ∈ Y, Item x) (hn : 1 ≤ Y.length) (hn8 : Y.length ≤ 8) {p : Rat} (hp : Good p) : QFit (Y.map ofR) (ofR p) (ofR (quantR Y p)) ∧ SmL (ofR (quantR Y p)) := by
  obtain ⟨n0, n1, n2, n3⟩ := hp.num
  obtain ⟨k, a1, a2, a3, a4, a5⟩ := fall (n := Y.length) hp.1 hp.2.1 hn
  have hplace : -84 ≤ (placeQ Y.length (ofR p)).1 ∧ (placeQ Y.length (ofR p)).1 ≤ 84 ∧ 0 < (placeQ Y.length (ofR p)).2 ∧ (placeQ Y.length (ofR p)).2 ≤ 12 :=
    mulQ_le (A := 12) (B := 7) (D := 12) (E := 1) (by show -12 ≤ p.num; omega) (by show p.num ≤ 12; omega) n2 n3 (by show (-7 : Int) ≤ (Y.length : Int) - 1; omega) (by show (Y.length : Int) - 1 ≤ 7; omega) (Int.zero_lt_one) (Int.le_refl 1)
  have hfl : flQ (placeQ Y.length (ofR p)) = (k : Int) := by rw [placeQ_of, flQ_of]; exact a1
  have hpart : partQ Y.length (ofR p) = ofR (p * (((Y.length : Int) - 1 : Int) : Rat) - ((k : Int) : Rat)) := by rw [partQ_of, a1]
  have hpd : (partQ Y.length (ofR p)).2 ≤ 12 := by
    have := lowQ_den (n := (placeQ Y.length (ofR p)).1 * 1 + (0 - flQ (placeQ Y.length (ofR p))) * (placeQ Y.length (ofR p)).2) (d := (placeQ Y.length (ofR p)).2 * 1) (by omega)
    have h2 : (partQ Y.length (ofR p)).2 ≤ (placeQ Y.length (ofR p)).2 * 1 := this.2
    omega
  have i0 := item_at hY k
  have hq := quantF_of Y p
  unfold QFit SmL
  simp only [List.length_map]
  unfold SmQ Sm
  rw [hfl]
  by_cases hz : (partQ Y.length (ofR p)).1 = 0
  · have hzero : p * (((Y.length : Int) - 1 : Int) : Rat) = ((k : Int) : Rat) := by
      rw [hpart, num_zero] at hz; grind
    have hw : quantR Y p = Y.getD k 0 := quantR_whole hzero
    rw [hw]
    refine ⟨⟨n0, n1, by show _ ∧ _ ∧ _ ∧ _; refine ⟨?_, ?_, n2, ?_⟩ <;> (try show _ < p.num) <;> (try show p.num < _) <;> (try show (p.den : Int) < _) <;> omega, by omega, by omega, by omega, by omega, by omega, ofR (Y.getD k 0), ?_, .inl ⟨hz, rfl⟩⟩, by omega⟩
    exact at_ofR a2
  · have hlt : ((k : Int) : Rat) < p * (((Y.length : Int) - 1 : Int) : Rat) := by
      rw [hpart, num_zero] at hz; grind
    have hk := a5 hlt
    have i1 := item_at hY (k + 1)
    have hg : 0 ≤ (partQ Y.length (ofR p)).1 ∧ (partQ Y.length (ofR p)).1 ≤ 12 ∧ 0 < (partQ Y.length (ofR p)).2 := by
      rw [hpart] at hpd ⊢
      have g1 : 0 ≤ p * (((Y.length : Int) - 1 : Int) : Rat) - ((k : Int) : Rat) := by grind
      have g2 : p * (((Y.length : Int) - 1 : Int) : Rat) - ((k : Int) : Rat) ≤ 1 := by grind
      have := Good.num (p := p * (((Y.length : Int) - 1 : Int) : Rat) - ((k : Int) : Rat)) ⟨g1, g2, hpd⟩
      exact ⟨this.1, by show Rat.num _ ≤ 12; omega, this.2.2.1⟩
    have d1 := subQ_le i1.1 i1.2.1 i1.2.2.1 i1.2.2.2 i0.1 i0.2.1 i0.2.2.1 i0.2.2.2
    have d2 := mulQ_le (A := 12) (by omega) hg.2.1 hg.2.2 hpd d1.1 d1.2.1 d1.2.2.1 d1.2.2.2
    have d3 := addQ_le i0.1 i0.2.1 i0.2.2.1 i0.2.2.2 d2.1 d2.2.1 d2.2.2.1 d2.2.2.2
    have hval : ofR (quantR Y p) = addQ (ofR (Y.getD k 0)) (mulQ (partQ Y.length (ofR p)) (subQ (ofR (Y.getD (k + 1) 0)) (ofR (Y.getD k 0)))) := by
      rw [← hq]
      unfold quantF
      simp only [List.length_map]
      rw [if_neg hz, hfl]
      have e1 : ((k : Int)).toNat = k := by omega
      have e2 : ((k : Int) + 1).toNat = k + 1 := by omega
      rw [e1, e2, getD_of, getD_of]
    rw [hval]
    refine ⟨⟨n0, n1, by show _ ∧ _ ∧ _ ∧ _; refine ⟨?_, ?_, n2, ?_⟩ <;> (try show _ < p.num) <;> (try show p.num < _) <;> (try show (p.den : Int) < _) <;> omega, by omega, by omega, by omega, by omega, by omega, ofR (Y.getD k 0), at_ofR a2, .inr ⟨hz, ofR (Y.getD (k + 1) 0), ?_, by omega, by omega, by omega, by omega, by omega, rfl⟩⟩, by omega⟩
    have e2 : ((k : Int) + 1).toNat = k + 1 := by omega
    rw [e2]; exact at_ofR hk



theorem half_of : ((1 : Int), (2 : Int)) = ofR (Rat.divInt 1 2) := by decide
theorem awayQ_of (p : Rat) : awayQ (ofR p) = ofR (1 - p) := by
  have := subQ_of 1 p
  rw [← this]
  unfold awayQ subQ ofR
  have e1 : (1 : Rat).num = 1 := rfl
  have e2 : (1 : Rat).den = 1 := rfl
  simp only [e1, e2]
  congr 1 <;> omega
theorem movQ_of (x : Rat) : movQ (ofR x) = ofR (3 * x + 5) := by
  unfold movQ
  rw [show (ofR x).1 = x.num from rfl, show (ofR x).2 = (x.den : Int) from rfl, lowQ_of (den_pos x)]
  congr 1
  have h5 : (5 : Rat) = Rat.divInt 5 1 := by rfl
  have h3 : (3 : Rat) = Rat.divInt 3 1 := by rfl
  have hx := Rat.num_divInt_den x
  have := Rat.divInt_add_divInt (3 * x.num) 5 (d₁ := 1 * x.den) (d₂ := 1) (by have := den_pos x; omega) (by decide)
  rw [← Rat.divInt_mul_divInt, hx, ← h3, ← h5] at this
  rw [this]
  congr 1 <;> omega
/-- the middle of a list -/
def medR (Y : List Rat) : Rat := if Y.length % 2 = 0 then (Y.getD (Y.length / 2 - 1) 0 + Y.getD (Y.length / 2) 0) * Rat.divInt 1 2 else Y.getD (Y.length / 2) 0
def medF (rs : List (Int × Int)) : Int × Int := if rs.length % 2 = 0 then meanQ [rs.getD (rs.length / 2 - 1) (0, 1), rs.getD (rs.length / 2) (0, 1)] else rs.getD (rs.length / 2) (0, 1)
theorem zero_of : ((0 : Int), (1 : Int)) = ofR 0 := rfl
theorem one_of : ((1 : Int), (1 : Int)) = ofR 1 := rfl
theorem sum1 (a : Rat) : sumQ [ofR a] = ofR a := by
  show addQ (0, 1) (ofR a) = _
  rw [zero_of, addQ_of, Rat.zero_add]
theorem sum2 (a b : Rat) : sumQ [ofR a, ofR b] = ofR (a + b) := by
  show addQ (addQ (0, 1) (ofR a)) (ofR b) = _
  rw [zero_of, addQ_of, addQ_of, Rat.zero_add]
theorem meanQ_of (a b : Rat) : meanQ [ofR a, ofR b] = ofR ((a + b) * Rat.divInt 1 2) := by
  unfold meanQ
  rw [sum2]
  have := mulQ_of (a + b) (Rat.divInt 1 2)
  rw [← this, ← half_of]
  rfl
theorem medF_of (Y : List Rat) : medF (Y.map ofR) = ofR (medR Y) := by
  unfold medF medR
  simp only [List.length_map, getD_of]
  split
  · rw [meanQ_of]
  · rfl
theorem medfit {Y : List Rat} (hY : ∀ x ∈ Y, Item x) (hn : 1 ≤ Y.length) : MedFit (Y.map ofR) (medF (Y.map ofR)) := by
  unfold MedFit
  by_cases h : Y.length % 2 = 0
  · refine .inl ⟨Y.length / 2, ofR (Y.getD (Y.length / 2 - 1) 0), ofR (Y.getD (Y.length / 2) 0), by simp; omega, by omega, at_ofR (by omega), at_ofR (by omega), ?_, ?_, ?_, ?_⟩
    · have := item_at hY (Y.length / 2 - 1); unfold SmQ Sm; omega
    · have := item_at hY (Y.length / 2); unfold SmQ Sm; omega
    · intro j
      have i0 := item_at hY (Y.length / 2 - 1)
      have i1 := item_at hY (Y.length / 2)
      match j with
      | 0 => show SmQ ((0 : Int), (1 : Int)); exact ⟨by decide, by decide, by decide, by decide⟩
      | 1 =>
        show SmQ (sumQ [_])
        rw [sum1]; unfold SmQ Sm; omega
      | j + 2 =>
        have e : [ofR (Y.getD (Y.length / 2 - 1) 0), ofR (Y.getD (Y.length / 2) 0)].take (j + 2) = [ofR (Y.getD (Y.length / 2 - 1) 0), ofR (Y.getD (Y.length / 2) 0)] := by simp
        rw [e]
        have := addQ_le i0.1 i0.2.1 i0.2.2.1 i0.2.2.2 i1.1 i1.2.1 i1.2.2.1 i1.2.2.2
        rw [addQ_of, ← sum2] at this
        unfold SmQ Sm; omega
    · unfold medF
      simp only [List.length_map, h, if_true, getD_of]
  · refine .inr ⟨Y.length / 2, by simp; omega, ?_⟩
    unfold medF
    simp only [List.length_map, h, if_false, getD_of]
    exact at_ofR (by omega)
theorem half_good : Good (Rat.divInt 1 2) := ⟨by decide, by decide, by decide⟩
theorem med_quant {Y : List Rat} (hn : 1 ≤ Y.length) : quantR Y (Rat.divInt 1 2) = medR Y := by
  have hd : Rat.divInt 1 2 = (1 : Rat) / 2 := by rw [Rat.divInt_eq_div]; rfl
  unfold medR
  by_cases h : Y.length % 2 = 0
  · rw [if_pos h]
    have hc : ((((Y.length / 2 - 1 : Nat) : Int)) : Rat) = (((Y.length : Int) - 1 : Int) : Rat) * Rat.divInt 1 2 - Rat.divInt 1 2 := by
      have e : ((Y.length : Int) - 1) = 2 * ((Y.length / 2 - 1 : Nat) : Int) + 1 := by omega
      rw [e, hd]; grind
    have hf : (Rat.divInt 1 2 * (((Y.length : Int) - 1 : Int) : Rat)).floor = ((Y.length / 2 - 1 : Nat) : Int) := by
      refine floor_of ?_ ?_ <;> rw [hc, hd] <;> grind
    have e2 : Y.length / 2 - 1 + 1 = Y.length / 2 := by omega
    rw [quantR_at hf, hc, e2, hd]
    grind
  · rw [if_neg h]
    refine quantR_whole (k := Y.length / 2) ?_
    have e : ((Y.length : Int) - 1) = 2 * ((Y.length / 2 : Nat) : Int) := by omega
    rw [e, hd]; grind
theorem frac_good {k d : Int} (h0 : 0 ≤ k) (h1 : k ≤ d) (hd : 0 < d) (hd2 : d ≤ 12) : Good (Rat.divInt k d) := by
  have e : ofR (Rat.divInt k d) = lowQ k d := (lowQ_of hd).symm
  have hl := lowQ_den (n := k) hd
  rw [← e] at hl
  have hdr : (0 : Rat) < (d : Rat) := Rat.intCast_lt_intCast.mpr hd
  have h0r : (0 : Rat) ≤ (k : Rat) := Rat.intCast_le_intCast.mpr h0
  have h1r : (k : Rat) ≤ (d : Rat) := Rat.intCast_le_intCast.mpr h1
  have hm : Rat.divInt k d * (d : Rat) = (k : Rat) := by
    rw [Rat.divInt_eq_div]
    exact Rat.div_mul_cancel (Rat.ne_of_gt hdr)
  refine ⟨?_, ?_, Int.le_trans hl.2 hd2⟩
  · rcases Rat.le_total (a := 0) (b := Rat.divInt k d) with h | h
    · exact h
    · have := Rat.mul_le_mul_of_nonneg_right h (Rat.le_of_lt hdr)
      rw [hm, Rat.zero_mul] at this
      have hk : (k : Rat) = 0 := Rat.le_antisymm this h0r
      have : k = 0 := by
        have := Rat.intCast_le_intCast (a := k) (b := 0)
        have h2 := this.mp (by rw [hk]; exact Rat.le_refl)
        omega
      subst this
      rw [Rat.zero_divInt]; exact Rat.le_refl
  · rcases Rat.le_total (a := Rat.divInt k d) (b := 1) with h | h
    · exact h
    · have h3 := Rat.mul_le_mul_of_nonneg_right h (Rat.le_of_lt hdr)
      rw [hm, Rat.one_mul] at h3
      have h4 : (k : Rat) = (d : Rat) := Rat.le_antisymm h1r h3
      have : Rat.divInt k d = 1 := by
        rw [Rat.divInt_eq_div, h4, Rat.div_def]
        exact Rat.mul_inv_cancel _ (Rat.ne_of_gt hdr)
      rw [this]; exact Rat.le_refl



def Xs (ms : List Int) (n : Nat) : List Rat := (List.range n).map fun k => Rat.divInt ((ms.getD (2 + k) 0).fmod 23 - 11) (stepI ms)
def Sh (ms : List Int) : List Rat := [0, 1] ++ (List.range 3).map fun k => Rat.divInt ((ms.getD (10 + k) 0).fmod 13) 12
theorem items_of (ms : List Int) (n : Nat) : itemsQ ms n = (Xs ms n).map ofR := by
  unfold itemsQ Xs
  rw [List.map_map]
  refine List.map_congr_left fun k _ => ?_
  have := stepI_le ms
  exact lowQ_of (by omega)
theorem shares_of (ms : List Int) : sharesQ ms = (Sh ms).map ofR := by
  unfold sharesQ Sh
  rw [List.map_append, List.map_map]
  congr 1
  refine List.map_congr_left fun k _ => ?_
  exact lowQ_of (by decide)
theorem xs_small (ms : List Int) (n : Nat) : ∀ x ∈ Xs ms n, -11 ≤ x.num ∧ x.num ≤ 11 ∧ (x.den : Int) ≤ 3 := by
  intro x hx
  obtain ⟨k, _, rfl⟩ := List.mem_map.mp hx
  have hs := stepI_le ms
  have hf := fmod_pos (ms.getD (2 + k) 0) (b := 23) (by decide)
  have hd : 0 < stepI ms := by omega
  have := lowQ_le (n := (ms.getD (2 + k) 0).fmod 23 - 11) (B := 11) hd (by omega) (by omega)
  rw [lowQ_of hd] at this
  exact ⟨this.1, this.2.1, by have := this.2.2.2; show (ofR _).2 ≤ 3; omega⟩
theorem sh_good (ms : List Int) : ∀ p ∈ Sh ms, Good p := by
  intro p hp
  unfold Sh at hp
  rcases List.mem_append.mp hp with hp | hp
  · rcases List.mem_cons.mp hp with rfl | hp
    · exact ⟨by decide, by decide, by decide⟩
    · rw [List.mem_singleton.mp hp]; exact ⟨by decide, by decide, by decide⟩
  · obtain ⟨k, _, rfl⟩ := List.mem_map.mp hp
    have hf := fmod_pos (ms.getD (10 + k) 0) (b := 13) (by decide)
    exact frac_good (by omega) (by omega) (by decide) (by decide)
theorem good_away {p : Rat} (h : Good p) : Good (1 - p) := by
  obtain ⟨a, b, c⟩ := h
  refine ⟨by grind, by grind, ?_⟩
  have h2 : awayQ (ofR p) = ofR (1 - p) := awayQ_of p
  have := lowQ_den (n := (ofR p).2 - (ofR p).1) (d := (ofR p).2) (den_pos p)
  have h3 : (awayQ (ofR p)).2 ≤ (ofR p).2 := this.2
  rw [h2] at h3
  exact Int.le_trans h3 c
theorem item_of {x : Rat} (h : -11 ≤ x.num ∧ x.num ≤ 11 ∧ (x.den : Int) ≤ 3) : Item x := ⟨by omega, by omega, h.2.2⟩
theorem item_neg {x : Rat} (h : -11 ≤ x.num ∧ x.num ≤ 11 ∧ (x.den : Int) ≤ 3) : Item (-x) := by
  refine ⟨?_, ?_, ?_⟩
  · rw [Rat.neg_num]; omega
  · rw [Rat.neg_num]; omega
  · rw [Rat.neg_den]; exact h.2.2
theorem item_mov {x : Rat} (h : -11 ≤ x.num ∧ x.num ≤ 11 ∧ (x.den : Int) ≤ 3) : Item (3 * x + 5) := by
  have e := movQ_of x
  have hd := den_pos x
  have := lowQ_le (n := 3 * x.num + 5 * (x.den : Int)) (d := (x.den : Int)) (B := 48) hd (by omega) (by omega)
  have h2 : lowQ (3 * x.num + 5 * (x.den : Int)) (x.den : Int) = ofR (3 * x + 5) := e
  rw [h2] at this
  exact ⟨this.1, this.2.1, Int.le_trans this.2.2.2 h.2.2⟩
theorem den_items {X : List Rat} (h : ∀ x ∈ X, Item x) : Den (X.map ofR) := by
  intro q hq
  obtain ⟨x, hx, rfl⟩ := List.mem_map.mp hq
  have h1 := (h x hx).2.2
  have h2 := den_pos x
  show (x.den : Int) = 1 ∨ (x.den : Int) = 2 ∨ (x.den : Int) = 3
  omega
theorem item_sml {x : Rat} (h : Item x) : SmL (ofR x) := by
  have := den_pos x
  refine ⟨?_, ?_, this, ?_⟩
  · show _ < x.num; have := h.1; omega
  · show x.num < _; have := h.2.1; omega
  · show (x.den : Int) < _; have := h.2.2; omega
theorem good_sml {x : Rat} (h : Good x) : SmL (ofR x) := by
  have := h.num
  refine ⟨?_, ?_, this.2.2.1, ?_⟩
  · show _ < x.num; omega
  · show x.num < _; omega
  · show (x.den : Int) < _; omega
theorem qsfit {X S : List Rat} (hX : ∀ x ∈ X, Item x) (hn : 1 ≤ X.length) (hn8 : X.length ≤ 8) (hS : ∀ p ∈ S, Good p) : QsFit (X.map ofR) (S.map ofR) quantF := by
  intro rs hp hw p hps
  obtain ⟨Y, rfl, hpY, hwY⟩ := perm_ofR hp hw
  obtain ⟨s, hs, rfl⟩ := List.mem_map.mp hps
  rw [quantF_of]
  have hl := hpY.length_eq
  exact (qfit (fun x hx => hX x (hpY.mem_iff.mp hx)) (by omega) (by omega) (hS s hs)).1
theorem same_rs {X R : List Rat} {rs : List (Int × Int)} (hR : R.Perm X) (hRw : R.Pairwise (· ≤ ·)) (hp : rs.Perm (X.map ofR)) (hw : rs.Pairwise leQ) : rs = R.map ofR := by
  obtain ⟨Y, rfl, hpY, hwY⟩ := perm_ofR hp hw
  rw [sorted_eq (hpY.trans hR.symm) hwY hRw]
theorem map_quant {Y S : List Rat} : (S.map ofR).map (quantF (Y.map ofR)) = (S.map (quantR Y)).map ofR := by
  rw [List.map_map, List.map_map]
  exact List.map_congr_left fun s _ => quantF_of Y s
theorem num_all (ms : List Int) (n : Nat) (hn : 1 ≤ n) (hn8 : n ≤ 8) : NumAll quantF medF ms n := by
  have hXl : (Xs ms n).length = n := by simp [Xs]
  have hxs := xs_small ms n
  have hI : ∀ x ∈ Xs ms n, Item x := fun x hx => item_of (hxs x hx)
  have hS := sh_good ms
  have hSl : (Sh ms).length = 5 := by simp [Sh]
  refine ⟨?_, ?_, ?_, ?_⟩
  · rw [items_of]
    intro q hq
    obtain ⟨x, hx, rfl⟩ := List.mem_map.mp hq
    have := item_sml (hI x hx)
    exact ⟨by omega, by omega, this.2.2.1, by omega⟩
  · rw [items_of]; exact den_items hI
  · rw [items_of, shares_of]; exact qsfit hI (by omega) (by omega) hS
  · rintro ⟨lI, lS, lF, lR, usI, usS, usF, usR, cI, cS, cF, cR, qs, ss, fo, rk, many, mt⟩ h1 h2 h3 h4 h5 ⟨rs1, h6, h7, h8⟩
    dsimp only at h1 h2 h3 h4 h5 h6 h7 h8
    rw [items_of] at h1
    rw [shares_of] at h2
    have h3' := h3.symm
    clear h3
    subst h3'
    subst h1 h2 h8
    obtain ⟨R, rfl, hR, hRw⟩ := perm_ofR h4 h5
    have e1 := same_rs hR hRw h6 h7
    subst e1
    have hRl : R.length = n := by rw [hR.length_eq, hXl]
    have hRI : ∀ x ∈ R, Item x := fun x hx => hI x (hR.mem_iff.mp hx)
    have hfo : ∀ p, Good p → SmL (ofR (quantR R p)) := fun p hp => (qfit hRI (by omega) (by omega) hp).2
    have nf : ∀ q ∈ ((Sh ms).map ofR).map (quantF (R.map ofR)), SmL q := by
      intro q hq
      rw [map_quant] at hq
      obtain ⟨x, hx, rfl⟩ := List.mem_map.mp hq
      obtain ⟨s, hs, rfl⟩ := List.mem_map.mp hx
      exact hfo s (hS s hs)
    have nq : ∀ q ∈ (Xs ms n).map ofR, SmL q := by
      intro q hq
      obtain ⟨x, hx, rfl⟩ := List.mem_map.mp hq
      exact item_sml (hI x hx)
    have ns : ∀ q ∈ (Sh ms).map ofR, SmL q := by
      intro q hq
      obtain ⟨x, hx, rfl⟩ := List.mem_map.mp hq
      exact good_sml (hS x hx)
    refine ⟨?_, ?_, ?_, ?_, ?_, ?_⟩
    · -- the ends
      refine ⟨ofR (R.getD 0 0), ofR (R.getD (R.length - 1) 0), ?_, ?_, ?_, ?_, ?_, ?_⟩
      · dsimp only
        rw [map_quant]
        have : quantR R 0 = R.getD 0 0 := quantR_whole (k := 0) (by grind)
        rw [← this]; rfl
      · exact at_ofR (by omega)
      · dsimp only
        rw [map_quant]
        have : quantR R 1 = R.getD (R.length - 1) 0 := quantR_whole (k := R.length - 1) (by
          have e : ((R.length - 1 : Nat) : Int) = (R.length : Int) - 1 := by omega
          rw [e]; grind)
        rw [← this]; rfl
      · dsimp only
        rw [List.length_map]
        exact at_ofR (by omega)
      · simp; omega
      · simp; omega
    · -- a greater share gives no less
      refine ⟨by simp, by simp [hSl], ns, nf, ?_⟩
      dsimp only
      intro i j p p' g g' a1 a2 a3 a4 a5 a6
      rw [map_quant] at a3 a4
      obtain ⟨s, hs, rfl⟩ := map_at a1
      obtain ⟨s', hs', rfl⟩ := map_at a2
      obtain ⟨x, hx, rfl⟩ := map_at a3
      obtain ⟨x', hx', rfl⟩ := map_at a4
      obtain ⟨t, ht, rfl⟩ := map_at hx
      obtain ⟨t', ht', rfl⟩ := map_at hx'
      rw [hs] at ht; cases ht
      rw [hs'] at ht'; cases ht'
      have b1 := (ltQ_of s s').mp a5
      have b2 := (ltQ_of (quantR R s') (quantR R s)).mp a6
      have := quantR_mono hRw (by omega) (hS s (List.mem_of_getElem? hs)).1 (Rat.le_of_lt b1) (hS s' (List.mem_of_getElem? hs')).2.1
      exact absurd b2 (Rat.not_lt.mpr this)
    · -- at a whole place
      refine ⟨den_items hI, by simp [hXl]; omega, by simp [hXl]; omega, by simp [hRl], hn, hn8, ?_⟩
      dsimp only
      intro k hk
      obtain ⟨P, hP, hPg, hPk⟩ : ∃ P : Rat, placeOf n k = ofR P ∧ Good P ∧ P * (((R.length : Int) - 1 : Int) : Rat) = ((k : Int) : Rat) := by
        unfold placeOf
        by_cases e : n = 1
        · rw [if_pos e]
          have hk0 : k = 0 := by omega
          subst hk0
          exact ⟨0, rfl, ⟨by decide, by decide, by decide⟩, by rw [hRl, e]; grind⟩
        · rw [if_neg e]
          have hm : (0 : Int) < (n : Int) - 1 := by omega
          refine ⟨_, lowQ_of hm, frac_good (by omega) (by omega) hm (by omega), ?_⟩
          rw [hRl, Rat.divInt_eq_div]
          exact Rat.div_mul_cancel (Rat.ne_of_gt (Rat.intCast_lt_intCast.mpr hm))
      rw [hP]
      refine ⟨qsfit (S := [P]) hI (by omega) (by omega) (fun p hp => by rw [List.mem_singleton.mp hp]; exact hPg), fun x hx rs hp hw => ?_⟩
      obtain rfl := same_rs hR hRw hp hw
      rw [quantF_of, quantR_whole hPk]
      rw [at_ofR (by omega)] at hx
      exact Option.some.inj hx
    · -- the middle
      refine ⟨den_items hI, by simp [hXl]; omega, by simp [hXl]; omega, fun rs hp hw => ?_, ?_, fun rs hp hw rs' hp' hw' => ?_⟩
      · obtain rfl := same_rs hR hRw hp hw
        exact medfit hRI (by omega)
      · rw [half_of]
        exact qsfit (S := [Rat.divInt 1 2]) hI (by omega) (by omega) (fun p hp => by rw [List.mem_singleton.mp hp]; exact half_good)
      · obtain rfl := same_rs hR hRw hp hw
        obtain rfl := same_rs hR hRw hp' hw'
        rw [half_of, quantF_of, med_quant (by omega), medF_of]
    · -- turned below nought
      have eq1 : ((Xs ms n).map ofR).map negQ = ((Xs ms n).map fun x => -x).map ofR := by
        rw [List.map_map, List.map_map]; exact List.map_congr_left fun x _ => negQ_of x
      have es1 : ((Sh ms).map ofR).map awayQ = ((Sh ms).map fun x => 1 - x).map ofR := by
        rw [List.map_map, List.map_map]; exact List.map_congr_left fun x _ => awayQ_of x
      have hNI : ∀ x ∈ (Xs ms n).map (fun x => -x), Item x := by
        intro x hx
        obtain ⟨y, hy, rfl⟩ := List.mem_map.mp hx
        exact item_neg (hxs y hy)
      have hSG : ∀ p ∈ (Sh ms).map (fun x => 1 - x), Good p := by
        intro p hp
        obtain ⟨y, hy, rfl⟩ := List.mem_map.mp hp
        exact good_away (hS y hy)
      refine ⟨nq, nf, ns, ?_, by simp [hXl]; omega, by simp [hXl]; omega, by simp [hSl], by simp [hSl], ?_, ?_⟩
      · dsimp only; rw [eq1]; exact den_items hNI
      · dsimp only; rw [eq1, es1]; exact qsfit hNI (by simp [hXl]; omega) (by simp [hXl]; omega) hSG
      · dsimp only
        intro rs hp hw
        rw [eq1] at hp
        have hZ : ((R.map fun x => -x).reverse).Perm ((Xs ms n).map fun x => -x) := (List.reverse_perm _).trans (hR.map _)
        have hZw : ((R.map fun x => -x).reverse).Pairwise (· ≤ ·) := by
          rw [List.pairwise_reverse, List.pairwise_map]
          exact hRw.imp fun {a b} h => by grind
        obtain rfl := same_rs hZ hZw hp hw
        rw [es1, map_quant, map_quant, List.map_map, List.map_map, List.map_map, List.map_map]
        refine List.map_congr_left fun s hs => ?_
        show ofR (quantR _ (1 - s)) = negQ (ofR (quantR R s))
        rw [negQ_of, quantR_mirror (by omega) (hS s hs).1 (hS s hs).2.1]
    · -- moved and stretched
      have eq1 : ((Xs ms n).map ofR).map movQ = ((Xs ms n).map fun x => 3 * x + 5).map ofR := by
        rw [List.map_map, List.map_map]; exact List.map_congr_left fun x _ => movQ_of x
      have hNI : ∀ x ∈ (Xs ms n).map (fun x => 3 * x + 5), Item x := by
        intro x hx
        obtain ⟨y, hy, rfl⟩ := List.mem_map.mp hx
        exact item_mov (hxs y hy)
      refine ⟨nq, nf, ?_, by simp [hXl]; omega, by simp [hXl]; omega, by simp [hSl], by simp [hSl], ?_, ?_⟩
      · dsimp only; rw [eq1]; exact den_items hNI
      · dsimp only; rw [eq1]; exact qsfit hNI (by simp [hXl]; omega) (by simp [hXl]; omega) hS
      · dsimp only
        intro rs hp hw
        rw [eq1] at hp
        have hZ : (R.map fun x => 3 * x + 5).Perm ((Xs ms n).map fun x => 3 * x + 5) := hR.map _
        have hZw : (R.map fun x => 3 * x + 5).Pairwise (· ≤ ·) := by
          rw [List.pairwise_map]
          exact hRw.imp fun {a b} h => by grind
        obtain rfl := same_rs hZ hZw hp hw
        rw [map_quant, map_quant, List.map_map, List.map_map, List.map_map]
        refine List.map_congr_left fun s hs => ?_
        show ofR (quantR _ s) = movQ (ofR (quantR R s))
        rw [movQ_of, quantR_moved (by omega) (hS s hs).1 (hS s hs).2.1]



local macro_rules | `(tactic| walk_at "execs cons") => `(tactic| ((with_reducible show wpAny _ _ (execs (PySem.Stmt.Assign [PySem.Expr.Name (PySem.Str.ofString "shares") _] _ _ :: _) _) _ _ _); refine hold ?_))
set_option maxHeartbeats 8000000 in
theorem law_body (f : List (Int × Int) → Int × Int → Int × Int) (fm : List (Int × Int) → Int × Int) (num : ∀ ms n, (∀ m ∈ ms, 0 ≤ m ∧ m < 1000) → 1 ≤ n → n ≤ 8 → NumAll f fm ms n) {fa : Addr} {cd : Value} {dp un : Nat} {gd : Option (List Code)} {outer : List Env} {A₀ : Around} {base h₀ : Heap} {L l : Addr} {s : Shared} {vs : List Value} {ns : List Int} {o1 o2 : Obj} {Q : Flow → Shared → Prop}
    (B : Below A₀ base outer h₀) (F : Fr h₀ L s.heap (bindL (lawEnv w L fa cd).kindOf [(Str.ofString "script", .ref l)] fun _ => none)) (X : (KK w.params).In h₀) (N : News h₀ L s.heap [(L + 1 + 1, o2), (L + 1, o1), (196, tabObj #[])]) (T : Top p loose mean mg mb h₀)
    (d2 : o2.data = .cell none) (d1 : o1.data = .cell none) (l0 : 196 < L) (hl : base.IsList l vs.toArray) (hi : IntsAre vs ns) (hlen : ns.length < 2 ^ 14) (hd : dp + 100 < recursionLimit) (hu : un + 4000 < cLine)
    (hQ : LEnd h₀ L s Q) :
    wpAny (model LP w) (ktrTop dp un gd (lawLit w).val.qual (lawLit w).val.scope L fa cd (cellsFrom (L + 1) (lawLit w).val.scope.names []) outer) (execs (lawLit w).val.body (lawEnv w L fa cd)) Q (fun _ _ => False) s := by
  have hT : Touch PySem.Challenge.rw_ov0057_01 KK := by (k_fill; trivial)
  clear hT
  k_with "pyIter ref" => (refine hold ?_)
  dsimp only [lawLit, lawEnv] at F ⊢
  (try k_fold)
  k_steps
  show wpAny _ _ _ _ _ _
  (rename Fr _ _ _ _ => lF'); (rename News _ _ _ _ => lN')
  k_dflt (refine law_given_con B lF' X lN' T rfl hl hi hlen (by omega) (by omega) ?_)
  intro r1 tl1 h1 tk1 F1 N1 off1 out1
  obtain ⟨D1, c1, us1, ms1, rfl, hD1, hrow⟩ := out1
  have hne1 : ∀ p ∈ ((L + 1 + 1, o2) :: (196, tabObj #[]) :: tl1 : Led), p.1 ≠ L + 1 := by
    intro p hp
    rcases List.mem_cons.mp hp with rfl | hp
    · exact Nat.ne_of_gt (Nat.lt_succ_self _)
    · rcases List.mem_cons.mp hp with rfl | hp
      · exact Nat.ne_of_lt (Nat.lt_succ_of_lt l0)
      · exact off1 p hp _ (.tail _ (.head _))
  have hne2 : ∀ p ∈ ((196, tabObj #[]) :: tl1 : Led), p.1 ≠ L + 1 + 1 := by
    intro p hp
    rcases List.mem_cons.mp hp with rfl | hp
    · exact Nat.ne_of_lt (Nat.lt_succ_of_lt (Nat.lt_succ_of_lt l0))
    · exact off1 p hp _ (.head _)
  have N2 : News h₀ L h1 ((L + 1, o1) :: (L + 1 + 1, o2) :: (196, tabObj #[]) :: tl1) := by
    intro q hq
    refine N1 q ?_
    simp only [List.mem_cons, List.mem_append, List.not_mem_nil, or_false] at hq ⊢; grind
  clear N1 lN' lF'
  k_steps
  show LCg.CompSrc _ _ _ _ _ _ _ _ _ _ _ _ _ _
  (rename Fr _ _ _ _ => lF'); (rename News _ _ _ _ => lN'); (rename IsRange _ _ _ _ _ _ _ _ => hRg)
  have dR := ‹_ = Data.cell (some (Value.ref D1))›
  have dS := ‹_ = Data.cell (some (Value.int _ _))›
  obtain ⟨n, hn, hn0, hn8⟩ : ∃ n : Nat, 1 + (ms1.getD (Int.toNat 0) 0).fmod 8 = (n : Int) ∧ 1 ≤ n ∧ n ≤ 8 := by
    have h8 := fmod_pos (ms1.getD (Int.toNat 0) 0) (b := 8) (by decide)
    exact ⟨(1 + (ms1.getD (Int.toNat 0) 0).fmod 8).toNat, by omega, by omega, by omega⟩
  rw [hn] at hRg
  change _ = Data.cell (some (Value.int (stepI ms1) _)) at dS
  have hst := stepI_le ms1
  (rename Heap => hx1)
  have tab : Tab0 ((L + 1, o1) :: (L + 1 + 1, o2) :: (196, tabObj #[]) :: tl1) := ⟨(L + 1, o1) :: (L + 1 + 1, o2) :: tl1, sp_tail (sp_tail sp_here), fun q hq => by
    rcases List.mem_cons.mp hq with rfl | hq
    · exact Nat.ne_of_gt (Nat.lt_succ_of_lt l0)
    · rcases List.mem_cons.mp hq with rfl | hq
      · exact Nat.ne_of_gt (Nat.lt_succ_of_lt (Nat.lt_succ_of_lt l0))
      · exact off1 q hq 196 (.tail _ (.tail _ (.head _))), fun q hq => by
    simp only [List.mem_cons] at hq ⊢; grind⟩
  have tab2 : ∀ (a b : Obj) (D : Addr) (o : Obj), (L + 1 < D ∧ L + 1 + 1 < D ∧ 196 < D ∧ AllLt D tl1) → Tab0 ((D, o) :: (L + 1, a) :: (L + 1 + 1, b) :: (196, tabObj #[]) :: tl1) := by
    intro a b D o hlt
    obtain ⟨rest, q1, q2, q3⟩ : Tab0 ((L + 1, a) :: (L + 1 + 1, b) :: (196, tabObj #[]) :: tl1) := ⟨(L + 1, a) :: (L + 1 + 1, b) :: tl1, sp_tail (sp_tail sp_here), fun q hq => by
      rcases List.mem_cons.mp hq with rfl | hq
      · exact Nat.ne_of_gt (Nat.lt_succ_of_lt l0)
      · rcases List.mem_cons.mp hq with rfl | hq
        · exact Nat.ne_of_gt (Nat.lt_succ_of_lt (Nat.lt_succ_of_lt l0))
        · exact off1 q hq 196 (.tail _ (.tail _ (.head _))), fun q hq => by
      simp only [List.mem_cons] at hq ⊢; grind⟩
    refine Tab0.cons ⟨rest, q1, q2, q3⟩ fun p hp => Nat.ne_of_lt ?_
    exact lt_cons hlt.1 (lt_cons hlt.2.1 (lt_cons hlt.2.2.1 (lt_of_all hlt.2.2.2))) p hp
  clear tab
  refine abs_led (St1 h₀ L hx1 D1 us1 c1 ms1) ⟨lN', tab2 _ _ _ _ (by assumption), .tail _ (.tail _ (.tail _ (.tail _ hD1))), ⟨_, dR, .tail _ (.head _)⟩, _, _, dS, .tail _ (.tail _ (.head _))⟩ ?_
  clear lN' dR dS tab2 hne1 hne2
  intro led ⟨lN', htab, hD2, ⟨oR, dR, hR⟩, oS, tS, dS, hS⟩
  refine LCg.CompSrc.range rfl lF' lN' hRg (small_one (by decide) (by decide) (by omega) (by omega)) (by rw [rangeSize_nat]; omega) (by rw [sizeLine_eq]; omega : n ≤ sizeLine) (fun gg => ?_)
  clear lN'
  refine comp_q (itemsQ ms1 n) led (by simp [itemsQ]) (fun tl => trivial) ?turn ?fin
  case turn =>
    intro i v gq tlc I oI C oC Dc m₂ ys hc tkc Ec hg hvi hCo hx2 Fc Nc off ne ht
    obtain ⟨tv, rfl⟩ := hvi
    obtain ⟨hi8, rfl⟩ : i < n ∧ itemQ ms1 i = gq := by
      unfold itemsQ at hg
      rw [List.getElem?_map] at hg
      obtain ⟨j, hj, e⟩ := Option.map_eq_some_iff.mp hg
      obtain ⟨hl', e'⟩ := List.getElem?_eq_some_iff.mp hj
      rw [List.getElem_range] at e'
      subst e'
      exact ⟨by simpa using hl', e⟩
    have hfm : ∀ x : Int, -11 ≤ x.fmod 23 - 11 ∧ x.fmod 23 - 11 ≤ 11 := fun x => by have := fmod_pos x (b := 23) (by decide); omega
    have hb23 := hfm (ms1.getD (2 + (0 + (i : Int))).toNat 0)
    have h2i : (2 + (0 + (i : Int))).toNat = 2 + i := by omega
    replace hR : (L + 1, oR) ∈ tlc ++ led := List.mem_append.mpr (.inr hR)
    replace hS : (L + 1 + 1, oS) ∈ tlc ++ led := List.mem_append.mpr (.inr hS)
    replace hD2 : (D1, listOf us1.toArray c1) ∈ tlc ++ led := List.mem_append.mpr (.inr hD2)
    clear ht lF' htab hRg hg hD1 off1
    generalize tlc ++ led = bs at *
    generalize hst9 : stepI ms1 = st at *
    k_steps
    exact TurnEnd.intro _ (by assumption) (by assumption) (by assumption) (IsQ.mk2 (List.mem_append.mpr (.inl (by assumption))) (by unfold itemQ lowQ; rw [h2i, hst9]) (by unfold itemQ lowQ; rw [h2i, hst9]))
  case fin =>
    intro ys tlc ht hys
    intro Df hf tkf Ff Nf off
    dsimp only
    simp only [hn] at Ff
    have o1 := off1_mem off
    k_steps
    show wpAny _ _ _ _ _ _
    exact law_s4 f fm (num ms1 n hrow.2.2 hn0 hn8) B Ff X T ⟨Nf, (htab.grow ht).cons o1, .tail _ (List.mem_append.mpr (.inr hD2)), ⟨oR, dR, .tail _ (List.mem_append.mpr (.inr hR))⟩, ys.length, .head _, DatAll.mono (fun p hp => .tail _ hp) hys⟩ hrow hn0 hn8 (by first | exact rfl | exact if_pos rfl) (by (try dsimp only); (repeat (rw [if_neg (by decide)])); first | exact if_pos rfl | rfl) hd hu (fun h' tk' m' all a b c => hQ h' tk' m' all a b c)



theorem law0.tw11222549508493501540 : True := trivial
theorem law0.tw11859431632840310305 : True := trivial
theorem law0.tw1620684238393596754 : True := trivial
theorem law0.tw13572739662856117382 : True := trivial
theorem law0.tw16453809850101299894 : True := trivial
theorem law0.tw15306539674793857377 : True := trivial
theorem law0.tw15408486576077001057 : True := trivial
theorem law0.tw1177859366931871299 : True := trivial
theorem law0.tw1784559871586640864 : True := trivial
theorem law0.tw10630252192111998524 : True := trivial
theorem law0.tw10032620121105566045 : True := trivial
theorem law0.tw10917286036579721307 : True := trivial
theorem law0.tw13184611047669044120 : True := trivial
theorem law0.tw6045903549345957425 : True := trivial
theorem law0.tw1741015064544413903 : True := trivial
theorem law0.tw10722740242206101657 : True := trivial
theorem law0.tw16808574446134438158 : True := trivial
theorem law0.tw9095731128961565082 : True := trivial
theorem law0.tw2581106155807449607 : True := trivial
theorem law0.tw1148156948500624280 : True := trivial
theorem law0.tw16784668206222672687 : True := trivial
theorem law0.tw17814754367282938222 : True := trivial
theorem law0.tw2666381876535079507 : True := trivial
theorem law0.tw11294410451544581352 : True := trivial
theorem law0.tw10296725909595943339 : True := trivial
theorem law0.tw3326316516304273019 : True := trivial
theorem law0.tw6982446993483874579 : True := trivial
theorem law0.tw6639347798800800660 : True := trivial
theorem law0.tw1659798432566798892 : True := trivial
theorem law0.tw8386381093137330377 : True := trivial
theorem law0.tw8310869196227379889 : True := trivial
theorem law0.tw9018901224244890181 : True := trivial
theorem law0.tw7890787108813072124 : True := trivial
theorem law0.tw1648573743134891248 : True := trivial
theorem law0.tw4777488686911143438 : True := trivial
theorem law0.tw11036847710331240904 : True := trivial
theorem law0.tw10398291495982506635 : True := trivial
theorem law0.tw12754935808939265006 : True := trivial
theorem law0.tw6511098520777711806 : True := trivial
theorem law0.tw6012819776628231351 : True := trivial
theorem law0.tw13217344302191610192 : True := trivial
theorem law0.tw8853725770238395067 : True := trivial
theorem law0.tw13533414681999403918 : True := trivial
theorem law0.tw13765983299568313511 : True := trivial
theorem law0.tw4878174255723778311 : True := trivial
theorem law0.tw12696889155717716755 : True := trivial
theorem law0.tw1610760908340044523 : True := trivial
theorem law0.tw12346181934254485148 : True := trivial
theorem law0.tw9957872472602079019 : True := trivial
theorem law0.tw1140421731826474158 : True := trivial
theorem law0.tw5114199050186101605 : True := trivial
theorem law0.tw7975160994723591189 : True := trivial
theorem law0.tw3395613344678616342 : True := trivial
theorem law0.tw11244846509269613564 : True := trivial
theorem law0.tw4461244602327236999 : True := trivial
theorem law0.tw6521327892170795074 : True := trivial
theorem law0.tw13974521956536804830 : True := trivial
theorem law0.tw18423069317951216678 : True := trivial
theorem law0.tw12187896493673951328 : True := trivial
theorem law0.tw941832887711519615 : True := trivial
theorem law0.tw6393542445638457130 : True := trivial
theorem law0.tw11235163905024454578 : True := trivial
theorem law0.tw9965426040842941362 : True := trivial
theorem law0.tw3221429205929893152 : True := trivial
theorem law0.tw2744046844789289277 : True := trivial
theorem law0.tw7070538115585392904 : True := trivial
theorem law0.tw18373021759013005462 : True := trivial
theorem law0.tw14138812305841297094 : True := trivial
theorem law0.tw15925853844416230114 : True := trivial
theorem law0.tw9592931494124603938 : True := trivial
set_option maxRecDepth 100000 in
set_option maxHeartbeats 8000000 in
set_option Elab.async true in
theorem law0 : PySem.Challenge.rw_ov0057_01.Holds := by
  (w_on; o_law; k_head; (case hw => w_witness2))
  k_go0
  all_goals (try k_fold)
  (rename Fr _ _ _ _ => lF'); (rename News _ _ _ _ => lN'); (rename Below _ _ _ _ => lB'); (rename Top _ _ _ _ _ _ => lT'); (rename Frag.In _ _ => lX'); (rename Heap.IsList _ _ _ => lL'); (rename IntsAre _ _ => lI')
  dsimp only at lF' ⊢
  refine wpAny_mono (E := fun _ _ => False) ?zzwalk (fun _ _ h => h) (fun _ _ h => False.elim h)
  case zzwalk =>
    k_dflt (refine' law_body Mine.quantF Mine.medF (fun ms n _ h1 h2 => Mine.num_all ms n h1 h2) ?zzB ?zzF ?zzX ?zzN ?zzT ?zzd2 ?zzd1 ?zzl0 ?zzhl ?zzhi ?zzhlen ?zzhd ?zzhu ?zzhQ)
    case zzB => exact lB'
    case zzF => exact lF'
    case zzX => exact lX'
    case zzN => exact lN'
    case zzT => exact lT'
    case zzd2 => first | assumption | (refine Eq.trans (by assumption) ?_; rfl)
    case zzd1 => first | assumption | (refine Eq.trans (by assumption) ?_; rfl)
    case zzl0 => first | assumption | exact And.left (by assumption)
    case zzhl => exact lL'
    case zzhi => exact lI'
    case zzhlen => omega
    case zzhd => decide
    case zzhu => decide
    case zzhQ =>
      intro h' tk' m' all F' N' hh
      obtain ⟨ps, rest, q1, q2, q3, q4⟩ := hh
      dsimp only
      refine ⟨?_, ?_⟩
      · k_steps
      · exact ⟨GrownAt.of N' (q1 _ (.head _)), trivial⟩
#print axioms Mine.law0
end Mine
theorem PySem.Challenge.cw_ov0057_01_holds : PySem.Challenge.rw_ov0057_01.Holds :=
  Mine.law0
