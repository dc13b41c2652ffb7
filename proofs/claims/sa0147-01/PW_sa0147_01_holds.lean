import PyProof.Rows.All
import Wide.All
import OpenK.AllK
import Wide.FinOn
import PySem.Challenge.RW_sa0147_01
open PySem PySem.W PyProof.Rows PySem.Calls
set_option Elab.async false
set_option maxRecDepth 100000
set_option maxHeartbeats 8000000
namespace Mine
section
def view : Program := { PySem.Challenge.pw_sa0147_01 with main := { PySem.Challenge.pw_sa0147_01.main with body := PySem.Challenge.pw_sa0147_01.main.body.zipIdx.filterMap fun p => if p.2 = 1 ∨ p.2 = 9 ∨ p.2 = 16 ∨ p.2 = 26 then none else some p.1 } }
local macro_rules | `(tactic| o_head $H) => `(tactic| (refine holds_open (q := view) (loose := []) (Xt := fun s => xlAt view [] s && recOk (RowW.records (OpenRow.toRowW PySem.Challenge.rw_sa0147_01.row)) s) (XP := XL view []) (Yf := Hook.obs $H) (Ya := Hook.val $H) (YP := Hook.says $H) (N := 3820) ?hl (Hook.of $H) (Hook.keeps $H) (fun s e => xl_of s (Bool.and_eq_true_iff.mp e).1) XL.keeps (by rfl) (by rfl) (by rfl) (fun s e => recFacts_of (Bool.and_eq_true_iff.mp e).2) (by rfl) (by first | assumption | decide +kernel) (by decide +kernel) ⟨rfl, rfl, rfl, rfl, rfl, by decide +kernel⟩ ?hw ?hc; (case' hl => (walk_say "HL"; intro w; kernel_rfl)); walk_say "HEAD"))
open_top hd for PySem.Challenge.rw_sa0147_01
end
theorem off0 : True := by
  w_top off
  trivial
end Mine
-- part MBase
namespace Mine
/-- what a call of f with vs hands back, over the ledger news -/
structure Tells (prog : Program) (w : World) (f : Addr) (need : Nat) (vs : List Value) (news : List (Addr × Obj)) (Post : Value → List (Addr × Obj) → Prop) : Prop where
  out : ∀ (p : Program) (loose : List Str) (mean : ExcName → Option Value) (mg mb : Str → Option Value) (dp un : Nat) (gd : Option (List Code)) (cn : Str) (cs : Scope) (a : Addr) (ccd : Value) (cl : List (Str × Addr)) (outer : List Env) (A₀ : Around) (base h₀ : Heap) (L : Addr) (m : Str → Option Value) (s : Shared) (Q E : Value → Shared → Prop),
    Below A₀ base outer h₀ → Fr h₀ L s.heap m → (hd.heap_39 w.params).In h₀ → News h₀ L s.heap news → Top p loose mean mg mb h₀ → cs.kind = .function →
    dp + need < recursionLimit → un + 8 * need < cLine →
    (∀ v news' h' tk', Post v news' → Fr h₀ L h' m → News h₀ L h' news' → Q v { s with heap := h', toks := tk' }) →
    wpAny (model prog w) (ktrTop dp un gd cn cs L a ccd cl outer) (call (.ref f) vs) Q E s
theorem tells_use {w : World} {f : Addr} {need : Nat} {vs : List Value} {news : List (Addr × Obj)} {Post : Value → List (Addr × Obj) → Prop} {prog : Program} {p : Program} {loose : List Str} {mean : ExcName → Option Value} {mg mb : Str → Option Value} {dp un : Nat} {gd : Option (List Code)} {cn : Str} {cs : Scope} {a : Addr} {ccd : Value} {cl : List (Str × Addr)} {outer : List Env} {A₀ : Around} {base h₀ : Heap} {L : Addr} {m : Str → Option Value} {s : Shared} {Q E : Value → Shared → Prop}
    (C : Tells prog w f need vs news Post) (B : Below A₀ base outer h₀) (F : Fr h₀ L s.heap m) (X : (hd.heap_39 w.params).In h₀) (N : News h₀ L s.heap news) (T : Top p loose mean mg mb h₀) (hk : cs.kind = .function)
    (hd : dp + need < recursionLimit) (hu : un + 8 * need < cLine) (hret : ∀ v news' h' tk', Post v news' → Fr h₀ L h' m → News h₀ L h' news' → Q v { s with heap := h', toks := tk' }) :
    wpAny (model prog w) (ktrTop dp un gd cn cs L a ccd cl outer) (call (.ref f) vs) Q E s :=
  C.out p loose mean mg mb dp un gd cn cs a ccd cl outer A₀ base h₀ L m s Q E B F X N T hk hd hu hret
def IntOut (r : Int) (news : List (Addr × Obj)) (v : Value) (news' : List (Addr × Obj)) : Prop := news' = news ∧ ∃ t', v = .int r t'
theorem intOut {r r' : Int} {news : List (Addr × Obj)} {t : Tok} (e : r' = r) : IntOut r news (.int r' t) news := ⟨rfl, t, by rw [e]⟩
theorem tells_int {w : World} {f : Addr} {need : Nat} {vs : List Value} {news : List (Addr × Obj)} {r : Int} {prog : Program} {p : Program} {loose : List Str} {mean : ExcName → Option Value} {mg mb : Str → Option Value} {dp un : Nat} {gd : Option (List Code)} {cn : Str} {cs : Scope} {a : Addr} {ccd : Value} {cl : List (Str × Addr)} {outer : List Env} {A₀ : Around} {base h₀ : Heap} {L : Addr} {m : Str → Option Value} {s : Shared} {Q E : Value → Shared → Prop}
    (C : Tells prog w f need vs news (IntOut r news)) (B : Below A₀ base outer h₀) (F : Fr h₀ L s.heap m) (X : (hd.heap_39 w.params).In h₀) (N : News h₀ L s.heap news) (T : Top p loose mean mg mb h₀) (hk : cs.kind = .function)
    (hd : dp + need < recursionLimit) (hu : un + 8 * need < cLine) (hret : ∀ t' h' tk', Fr h₀ L h' m → News h₀ L h' news → Q (.int r t') { s with heap := h', toks := tk' }) :
    wpAny (model prog w) (ktrTop dp un gd cn cs L a ccd cl outer) (call (.ref f) vs) Q E s :=
  tells_use C B F X N T hk hd hu fun v news' h' tk' P F' N' => by
    obtain ⟨rfl, t', rfl⟩ := P
    exact hret t' h' tk' F' N'
theorem drop1 {x : Addr × Obj} {l : List (Addr × Obj)} : ∀ p ∈ l, p ∈ x :: l := fun _ h => .tail _ h
theorem drop2 {x y : Addr × Obj} {l : List (Addr × Obj)} : ∀ p ∈ l, p ∈ x :: y :: l := fun _ h => .tail _ (.tail _ h)
def Halt (P : Prop) : Prop := P
theorem halt {P : Prop} (h : Halt P) : P := h
theorem fill0 : (PySem.Challenge.rw_sa0147_01.prog = PySem.Challenge.rw_sa0147_01.prog) ∧ hd.heap_39 = hd.heap_39 := by
  k_fill
  exact ⟨rfl, rfl⟩
end Mine
-- part M1
namespace Mine
local macro_rules | `(tactic| walk_at "mine int") => `(tactic| (refine hret _ _ _ _ (intOut ?_) (by assumption) (by assumption)))
section
local macro_rules | `(tactic| walk_at "binaryOp FloorDiv int int") => `(tactic| ((with_reducible refine floordiv_int ?h0 ?_ (Or.inl (PyProof.noPylong_of_log2 ?h1))); (case h0 => assumption); (case h1 => assumption)))
theorem dtz_call (prog : Program) (w : World) (a b : Int) (t u : Tok) (ha : 0 ≤ a) (hb : 0 < b) (hp : b.natAbs.log2 < 9000) (news : List (Addr × Obj)) : Tells prog w 207 1 [.int a t, .int b u] news (IntOut (a.fdiv b) news) := by
  refine Tells.mk ?_
  intro p loose mean mg mb dp un gd cn cs a' ccd cl outer A₀ base h₀ L m s Q E B F X N T hk hd hu hret
  have eb : (if b < 0 then -b else b) = b := if_neg (by omega)
  have ea : (if a < 0 then -a else a) = a := if_neg (by omega)
  have hb' : (if b < 0 then -b else b) ≠ 0 := by rw [eb]; omega
  have hp' : (if b < 0 then -b else b).natAbs.log2 < 9000 := by rw [eb]; exact hp
  refine wpAny_call ?_
  k_with_none
  k_dflt ktr_enter
  k_steps
  · exfalso
    rename_i hx _ _ _ _
    simp only [bne_iff_ne, ne_eq, decide_eq_decide] at hx
    exact hx ⟨fun _ => by omega, fun _ => by omega⟩
  · exact hret _ _ _ _ (intOut (by rw [ea, eb])) (by assumption) (by assumption)
end
theorem gcd_turn {x y G : Int} (h1 : 0 ≤ x) (h2 : 0 ≤ y) (h : y ≠ 0) (e : (Int.gcd x y : Int) = G) : 0 ≤ y ∧ 0 ≤ x.fmod y ∧ (Int.gcd y (x.fmod y) : Int) = G := by
  have hf : x.fmod y = x % y := Int.fmod_eq_emod_of_nonneg x h2
  rw [hf]
  refine ⟨h2, Int.emod_nonneg x h, ?_⟩
  rw [← e]
  obtain ⟨n, rfl⟩ := Int.eq_ofNat_of_zero_le h1
  obtain ⟨k, rfl⟩ := Int.eq_ofNat_of_zero_le h2
  rw [← Int.natCast_emod, Int.gcd_natCast_natCast, Int.gcd_natCast_natCast, Nat.gcd_comm, ← Nat.gcd_rec, Nat.gcd_comm]
theorem gcd_less {x y : Int} (h2 : 0 ≤ y) (h : y ≠ 0) : (x.fmod y).toNat < y.toNat := by
  have hf : x.fmod y = x % y := Int.fmod_eq_emod_of_nonneg x h2
  have := Int.emod_lt_of_pos x (show 0 < y by omega)
  rw [hf]; omega
theorem gcd_end {x y G : Int} (h1 : 0 ≤ x) (h : y = 0) (e : (Int.gcd x y : Int) = G) : x = G := by
  rw [h, Int.gcd_zero_right] at e
  omega
theorem gcd_call (prog : Program) (w : World) (a b : Int) (t u : Tok) (ha : 0 ≤ a) (hb : 0 ≤ b) (news : List (Addr × Obj)) : Tells prog w 221 1 [.int a t, .int b u] news (IntOut (Int.gcd a b) news) := by
  refine Tells.mk ?_
  intro p loose mean mg mb dp un gd cn cs a' ccd cl outer A₀ base h₀ L m s Q E B F X N T hk hd hu hret
  have eb : (if b < 0 then -b else b) = b := if_neg (by omega)
  have ea : (if a < 0 then -a else a) = a := if_neg (by omega)
  refine wpAny_call ?_
  k_with_none
  k_dflt ktr_enter
  k_with "exec While Name cons nil" => k_while (fun _ x y => 0 ≤ x ∧ 0 ≤ y ∧ (Int.gcd x y : Int) = Int.gcd a b) (fun _ x y => y.toNat) "first" "second"
  k_with "state" => first | (rw [ea, eb]; exact ⟨ha, hb, rfl⟩) | exact gcd_turn (by assumption) (by assumption) (by assumption) (by assumption)
  k_with "measure" => exact gcd_less (by assumption) (by assumption)
  k_steps
  exact hret _ _ _ _ (intOut (gcd_end (by assumption) (by assumption) (by assumption))) (by assumption) (by assumption)
end Mine
-- part M2
namespace Mine
section
local macro_rules | `(tactic| walk_at "call ref") => `(tactic| (k_here; refine wpAny_call ?_; k_dflt (refine' code_def ?k1 ?k2 ?k3 ?k4 ?k5 ?kA ?kF ?kK ?k6 ?k7 ?k8 ?k9 ?kB ?_ ?c2 ?c3 ?c4 ?c5; (case kA => exact rfl); (case kF => exact rfl); (case kK => first | exact rfl | assumption); (case k1 => k_asm); (case k2 => k_asm); (case k3 => k_asm); (case k4 => k_asm); (case k5 => k_asm); (case k6 => k_is); (case k7 => k_is); (case k8 => ktr_room); (case k9 => exact BindsTo.of_eq rfl); (case c5 => decide); (case kB => exact locs rfl); (case c2 => exact rfl); (case c3 => exact rfl); (case c4 => exact rfl); k_whole; intro g' L' h' FG' F' N' B' X' T'; (try dsimp only); (try k_fold)); walk_say "ENTER"))
local macro_rules | `(tactic| walk_at "call ref") => `(tactic| (k_here; k_dflt (refine' tells_int (dtz_call _ _ _ _ _ _ ?q1 ?q2 ?q3 _) ?k1 ?k2 ?k3 ?k4 ?k5 ?kK ?kd ?ku ?_; (case k1 => k_asm); (case k2 => k_asm); (case k3 => k_asm); (case k4 => first | k_asm | exact cb_drop (by k_asm) drop1 | exact cb_drop (by k_asm) drop2); (case k5 => k_asm); (case kK => first | exact rfl | assumption); (case kd => first | omega | ktr_room | ((try simp only [depth_under_make, depth_deeper]); (try dsimp only [ktrTop]); omega)); (case ku => first | omega | ktr_units | ((try simp only [units_under_make, units_deeper]); (try dsimp only [ktrTop]); omega)); (case q1 => assumption); (case q2 => assumption); (case q3 => assumption)); intro t9 h9 tk9 F9 N9; (try k_sweep); (try dsimp only); (try k_fold); walk_say "CONTRACT dtz_call"))
local macro_rules | `(tactic| walk_at "call ref") => `(tactic| (k_here; k_dflt (refine' tells_int (gcd_call _ _ _ _ _ _ ?q1 ?q2 _) ?k1 ?k2 ?k3 ?k4 ?k5 ?kK ?kd ?ku ?_; (case k1 => k_asm); (case k2 => k_asm); (case k3 => k_asm); (case k4 => first | k_asm | exact cb_drop (by k_asm) drop1 | exact cb_drop (by k_asm) drop2); (case k5 => k_asm); (case kK => first | exact rfl | assumption); (case kd => first | omega | ktr_room | ((try simp only [depth_under_make, depth_deeper]); (try dsimp only [ktrTop]); omega)); (case ku => first | omega | ktr_units | ((try simp only [units_under_make, units_deeper]); (try dsimp only [ktrTop]); omega)); (case q1 => assumption); (case q2 => assumption)); intro t9 h9 tk9 F9 N9; (try k_sweep); (try dsimp only); (try k_fold); walk_say "CONTRACT gcd_call"))
theorem of_add (prog : Program) (w : World) (nm : Addr) (a b : Int) (x t u : Tok) (news : List (Addr × Obj)) : Tells prog w 291 4 [.ref nm, .str (Str.ofString "+") x, .int a t, .int b u] news (IntOut (a + b) news) := by
  refine Tells.mk ?_
  intro p loose mean mg mb dp un gd cn cs a' ccd cl outer A₀ base h₀ L m s Q E B F X N T hk hd hu hret
  refine wpAny_call ?_
  k_with_none
  k_dflt ktr_enter
  k_steps
  exact hret _ _ _ _ (intOut rfl) (by assumption) (by assumption)
theorem of_sub (prog : Program) (w : World) (nm : Addr) (a b : Int) (x t u : Tok) (news : List (Addr × Obj)) : Tells prog w 291 4 [.ref nm, .str (Str.ofString "-") x, .int a t, .int b u] news (IntOut (a - b) news) := by
  refine Tells.mk ?_
  intro p loose mean mg mb dp un gd cn cs a' ccd cl outer A₀ base h₀ L m s Q E B F X N T hk hd hu hret
  refine wpAny_call ?_
  k_with_none
  k_dflt ktr_enter
  k_steps
  exact hret _ _ _ _ (intOut rfl) (by assumption) (by assumption)
theorem of_min (prog : Program) (w : World) (nm : Addr) (a b : Int) (x t u : Tok) (news : List (Addr × Obj)) : Tells prog w 291 4 [.ref nm, .str (Str.ofString "min") x, .int a t, .int b u] news (IntOut (min a b) news) := by
  refine Tells.mk ?_
  intro p loose mean mg mb dp un gd cn cs a' ccd cl outer A₀ base h₀ L m s Q E B F X N T hk hd hu hret
  refine wpAny_call ?_
  k_with_none
  k_dflt ktr_enter
  k_steps
  all_goals exact hret _ news _ _ (intOut (by omega)) (by assumption) (cb_drop (by assumption) (by kcj_all))
theorem of_max (prog : Program) (w : World) (nm : Addr) (a b : Int) (x t u : Tok) (news : List (Addr × Obj)) : Tells prog w 291 4 [.ref nm, .str (Str.ofString "max") x, .int a t, .int b u] news (IntOut (max a b) news) := by
  refine Tells.mk ?_
  intro p loose mean mg mb dp un gd cn cs a' ccd cl outer A₀ base h₀ L m s Q E B F X N T hk hd hu hret
  refine wpAny_call ?_
  k_with_none
  k_dflt ktr_enter
  k_steps
  all_goals exact hret _ news _ _ (intOut (by omega)) (by assumption) (cb_drop (by assumption) (by kcj_all))
theorem of_gcd (prog : Program) (w : World) (nm : Addr) (a b : Int) (x t u : Tok) (ha : 0 ≤ a) (hb : 0 ≤ b) (news : List (Addr × Obj)) : Tells prog w 291 4 [.ref nm, .str (Str.ofString "gcd") x, .int a t, .int b u] news (IntOut (Int.gcd a b) news) := by
  refine Tells.mk ?_
  intro p loose mean mg mb dp un gd cn cs a' ccd cl outer A₀ base h₀ L m s Q E B F X N T hk hd hu hret
  refine wpAny_call ?_
  k_with_none
  k_dflt ktr_enter
  k_steps
  exact hret _ news _ _ (intOut rfl) (by assumption) (cb_drop (by assumption) (by kcj_all))
theorem of_mul (prog : Program) (w : World) (nm : Addr) (a b : Int) (x t u : Tok) (hm : IntMulOk a b) (news : List (Addr × Obj)) : Tells prog w 291 4 [.ref nm, .str (Str.ofString "*") x, .int a t, .int b u] news (IntOut (a * b) news) := by
  refine Tells.mk ?_
  intro p loose mean mg mb dp un gd cn cs a' ccd cl outer A₀ base h₀ L m s Q E B F X N T hk hd hu hret
  refine wpAny_call ?_
  k_with_none
  k_dflt ktr_enter
  k_steps
  exact hret _ _ _ _ (intOut rfl) (by assumption) (by assumption)
theorem of_div (prog : Program) (w : World) (nm : Addr) (a b : Int) (x t u : Tok) (ha : 0 ≤ a) (hb : 0 < b) (hp : b.natAbs.log2 < 9000) (news : List (Addr × Obj)) : Tells prog w 291 4 [.ref nm, .str (Str.ofString "//") x, .int a t, .int b u] news (IntOut (a.fdiv b) news) := by
  refine Tells.mk ?_
  intro p loose mean mg mb dp un gd cn cs a' ccd cl outer A₀ base h₀ L m s Q E B F X N T hk hd hu hret
  refine wpAny_call ?_
  k_with_none
  k_dflt ktr_enter
  have hb0 : (b == 0) = false := by simp; omega
  k_steps
  exact hret _ news _ _ (intOut rfl) (by assumption) (cb_drop (by assumption) (by kcj_all))
end
end Mine
-- part M3
namespace Mine
abbrev PoolL (pl sl : Addr) (vs : List Value) (n' : Nat) (rest : List (Addr × Obj)) (c i k : Int) (t1 t2 t3 : Tok) (n : Nat) : List (Addr × Obj) :=
  (pl, listOf [.ref sl, .int c t1, .int i t2, .int k t3].toArray n) :: (sl, listOf vs.toArray n') :: rest
def PoolOut (P : Int → Prop) (pl sl : Addr) (vs : List Value) (n' : Nat) (rest : List (Addr × Obj)) (v : Value) (news' : List (Addr × Obj)) : Prop :=
  ∃ d t c i k t1 t2 t3 n, v = .int d t ∧ P d ∧ -1 ≤ i ∧ news' = PoolL pl sl vs n' rest c i k t1 t2 t3 n
theorem tells_pool {w : World} {P : Int → Prop} {pl sl : Addr} {vs : List Value} {n' : Nat} {rest : List (Addr × Obj)} {need : Nat} {as : List Value} {f : Addr} {news : List (Addr × Obj)} {prog : Program} {p : Program} {loose : List Str} {mean : ExcName → Option Value} {mg mb : Str → Option Value} {dp un : Nat} {gd : Option (List Code)} {cn : Str} {cs : Scope} {a : Addr} {ccd : Value} {cl : List (Str × Addr)} {outer : List Env} {A₀ : Around} {base h₀ : Heap} {L : Addr} {m : Str → Option Value} {s : Shared} {Q E : Value → Shared → Prop}
    (C : Tells prog w f need as news (PoolOut P pl sl vs n' rest)) (B : Below A₀ base outer h₀) (F : Fr h₀ L s.heap m) (X : (hd.heap_39 w.params).In h₀) (N : News h₀ L s.heap news) (T : Top p loose mean mg mb h₀) (hk : cs.kind = .function)
    (hd : dp + need < recursionLimit) (hu : un + 8 * need < cLine) (hret : ∀ d t' c i k t1 t2 t3 n h' tk', P d → -1 ≤ i → Fr h₀ L h' m → News h₀ L h' (PoolL pl sl vs n' rest c i k t1 t2 t3 n) → Q (.int d t') { s with heap := h', toks := tk' }) :
    wpAny (model prog w) (ktrTop dp un gd cn cs L a ccd cl outer) (call (.ref f) as) Q E s :=
  tells_use C B F X N T hk hd hu fun v news' h' tk' P F' N' => by
    obtain ⟨d, t, c, i, k, t1, t2, t3, n, rfl, h0, h2, rfl⟩ := P
    exact hret d t c i k t1 t2 t3 n h' tk' h0 h2 F' N'
theorem fmod_nn (x : Int) {n : Int} (h : 0 < n) : 0 ≤ x.fmod n := by
  rw [Int.fmod_eq_emod_of_nonneg x (by omega)]
  exact Int.emod_nonneg x (by omega)
theorem fmod_lt (x : Int) {n : Int} (h : 0 < n) : x.fmod n < n := by
  rw [Int.fmod_eq_emod_of_nonneg x (by omega)]
  exact Int.emod_lt_of_pos x h
section
local macro_rules | `(tactic| walk_at "call ref") => `(tactic| (k_here; refine wpAny_call ?_; k_dflt (refine' code_def ?k1 ?k2 ?k3 ?k4 ?k5 ?kA ?kF ?kK ?k6 ?k7 ?k8 ?k9 ?kB ?_ ?c2 ?c3 ?c4 ?c5; (case kA => exact rfl); (case kF => exact rfl); (case kK => first | exact rfl | assumption); (case k1 => k_asm); (case k2 => k_asm); (case k3 => k_asm); (case k4 => k_asm); (case k5 => k_asm); (case k6 => k_is); (case k7 => k_is); (case k8 => ktr_room); (case k9 => exact BindsTo.of_eq rfl); (case c5 => decide); (case kB => exact locs rfl); (case c2 => exact rfl); (case c3 => exact rfl); (case c4 => exact rfl); k_whole; intro g' L' h' FG' F' N' B' X' T'; (try dsimp only); (try k_fold)); walk_say "ENTER"))
local macro_rules | `(tactic| k_all) => `(tactic| assumption)
local macro_rules | `(tactic| walk_at "binaryOp FloorDiv int int") => `(tactic| ((with_reducible refine floordiv_int ?h0 ?_ (Or.inl (PyProof.noPylong_of_log2 ?h1))); (case h0 => assumption); (case h1 => assumption)))
theorem draw_call (prog : Program) (w : World) (limit : Int) (t : Tok) (pl sl : Addr) (vs : List Value) (ns : List Int) (n' : Nat) (rest : List (Addr × Obj)) (c i k : Int) (t1 t2 t3 : Tok) (n : Nat)
    (hi : IntsAre vs ns) (hl : ns.length ≤ 63) (h1 : -1 ≤ i) (h0 : 0 < limit) (hp : limit.natAbs.log2 < 9000) (ha : ∀ p ∈ (sl, listOf vs.toArray n') :: rest, p.1 ≠ pl) :
    Tells prog w 270 1 [.ref pl, .int limit t] (PoolL pl sl vs n' rest c i k t1 t2 t3 n) (PoolOut (fun d => 0 ≤ d ∧ d < limit) pl sl vs n' rest) := by
  refine Tells.mk ?_
  intro p loose mean mg mb dp un gd cn cs a' ccd cl outer A₀ base h₀ L m s Q E B F X N T hk hd hu hret
  refine wpAny_call ?_
  k_with_none
  k_dflt ktr_enter
  have hlim : limit ≠ 0 := by omega
  k_steps
  all_goals (refine hret _ _ _ _ ?_ (by assumption) (by assumption); exact ⟨_, _, _, _, _, _, _, _, _, rfl, ⟨fmod_nn _ h0, fmod_lt _ h0⟩, (by omega), rfl⟩)
end
end Mine
-- part M4
namespace Mine
theorem menu_at {d : Int} (h0 : 0 ≤ d) (h1 : d < 3) (h2 : d ≠ 2) : d.toNat = 0 ∨ d.toNat = 1 := by omega
theorem menu_pos {d : Int} (h0 : 0 ≤ d) (h1 : d < 3) (h2 : d ≠ 2) : 0 < [(9 : Int), 201].getD d.toNat 0 := by
  rcases menu_at h0 h1 h2 with e | e <;> rw [e] <;> decide
theorem menu_log {d : Int} (h0 : 0 ≤ d) (h1 : d < 3) (h2 : d ≠ 2) : ([(9 : Int), 201].getD d.toNat 0).natAbs.log2 < 9000 := by
  rcases menu_at h0 h1 h2 with e | e <;> rw [e] <;> decide
section
local macro_rules | `(tactic| walk_at "call ref") => `(tactic| (k_here; refine wpAny_call ?_; k_dflt (refine' code_def ?k1 ?k2 ?k3 ?k4 ?k5 ?kA ?kF ?kK ?k6 ?k7 ?k8 ?k9 ?kB ?_ ?c2 ?c3 ?c4 ?c5; (case kA => exact rfl); (case kF => exact rfl); (case kK => first | exact rfl | assumption); (case k1 => k_asm); (case k2 => k_asm); (case k3 => k_asm); (case k4 => k_asm); (case k5 => k_asm); (case k6 => k_is); (case k7 => k_is); (case k8 => ktr_room); (case k9 => exact BindsTo.of_eq rfl); (case c5 => decide); (case kB => exact locs rfl); (case c2 => exact rfl); (case c3 => exact rfl); (case c4 => exact rfl); k_whole; intro g' L' h' FG' F' N' B' X' T'; (try dsimp only); (try k_fold)); walk_say "ENTER"))
local macro_rules | `(tactic| walk_at "call ref") => `(tactic| (k_here; k_dflt (refine' tells_pool (draw_call _ _ _ _ _ _ _ _ _ _ _ _ _ _ _ _ _ ?qi ?ql ?q1 ?q0 ?qp ?qa) ?k1 ?k2 ?k3 ?k4 ?k5 ?kK ?kd ?ku ?_; (case k1 => k_asm); (case k2 => k_asm); (case k3 => k_asm); (case k4 => first | k_asm | exact cb_drop (by k_asm) drop1 | exact cb_drop (by k_asm) drop2); (case k5 => k_asm); (case kK => first | exact rfl | assumption); (case kd => first | omega | ktr_room | ((try simp only [depth_under_make, depth_deeper]); (try dsimp only [ktrTop]); omega)); (case ku => first | omega | ktr_units | ((try simp only [units_under_make, units_deeper]); (try dsimp only [ktrTop]); omega)); (case qi => assumption); (case ql => assumption); (case q1 => assumption); (case q0 => first | decide | (k_extra "limit")); (case qp => first | decide | (k_extra "limit")); (case qa => assumption)); intro d9 t9 c9 i9 k9 u9 v9 w9 n9 h9 tk9 hP9 hi9 F9 N9; (have hd0 := hP9.1); (have hd1 := hP9.2); clear hP9; (try dsimp only); (try k_fold); walk_say "CONTRACT draw_call"))
theorem number_call (prog : Program) (w : World) (pl sl : Addr) (vs : List Value) (ns : List Int) (n' : Nat) (rest : List (Addr × Obj)) (c i k : Int) (t1 t2 t3 : Tok) (n : Nat)
    (hi : IntsAre vs ns) (hl : ns.length ≤ 63) (h1 : -1 ≤ i) (ha : ∀ p ∈ (sl, listOf vs.toArray n') :: rest, p.1 ≠ pl) :
    Tells prog w 277 2 [.ref pl] (PoolL pl sl vs n' rest c i k t1 t2 t3 n) (PoolOut (fun _ => True) pl sl vs n' rest) := by
  refine Tells.mk ?_
  intro p loose mean mg mb dp un gd cn cs a' ccd cl outer A₀ base h₀ L m s Q E B F X N T hk hd hu hret
  refine wpAny_call ?_
  k_with_none
  k_dflt ktr_enter
  k_with "limit" => first | exact menu_pos (by assumption) (by assumption) (by assumption) | exact menu_log (by assumption) (by assumption) (by assumption)
  k_steps
  all_goals (refine hret _ (PoolL pl sl vs n' rest _ _ _ _ _ _ _) _ _ ?_ (by assumption) (by first | assumption | exact cb_drop (by assumption) drop1); exact ⟨_, _, _, _, _, _, _, _, _, rfl, trivial, (by assumption), rfl⟩)
theorem pow3_bits {e : Int} (h0 : 0 ≤ e) (h1 : e < 4) : Builtin.Int.intBits ((3 : Int) ^ e.toNat) ≤ 64 := by
  have h : e = 0 ∨ e = 1 ∨ e = 2 ∨ e = 3 := by omega
  rcases h with rfl | rfl | rfl | rfl <;> decide
theorem pow5_bits {e : Int} (h0 : 0 ≤ e) (h1 : e < 3) : Builtin.Int.intBits ((5 : Int) ^ e.toNat) ≤ 64 := by
  have h : e = 0 ∨ e = 1 ∨ e = 2 := by omega
  rcases h with rfl | rfl | rfl <;> decide
theorem small_bits {d : Int} (h0 : 0 ≤ d) (h1 : d < 49) : Builtin.Int.intBits (1 + d) ≤ 64 := intBits_le_64 (by omega) (by omega)
theorem prod_bound {d e f g : Int} (d0 : 0 ≤ d) (d1 : d < 5) (e0 : 0 ≤ e) (e1 : e < 4) (f0 : 0 ≤ f) (f1 : f < 3) (g0 : 0 ≤ g) (g1 : g < 49) :
    1 ≤ 2 ^ d.toNat * 3 ^ e.toNat * 5 ^ f.toNat * (1 + g) ∧ 2 ^ d.toNat * 3 ^ e.toNat * 5 ^ f.toNat * (1 + g) ≤ 529200 := by
  have hd : d = 0 ∨ d = 1 ∨ d = 2 ∨ d = 3 ∨ d = 4 := by omega
  have he : e = 0 ∨ e = 1 ∨ e = 2 ∨ e = 3 := by omega
  have hf : f = 0 ∨ f = 1 ∨ f = 2 := by omega
  rcases hd with rfl | rfl | rfl | rfl | rfl <;> rcases he with rfl | rfl | rfl | rfl <;> rcases hf with rfl | rfl | rfl <;> simp <;> omega
local macro_rules | `(tactic| walk_at "binaryOp Mult int int") => `(tactic| (k_here; (with_reducible refine mul_int ?_ ?hm); (case hm => k_extra "mul")))
theorem product_call (prog : Program) (w : World) (pl sl : Addr) (vs : List Value) (ns : List Int) (n' : Nat) (rest : List (Addr × Obj)) (c i k : Int) (t1 t2 t3 : Tok) (n : Nat)
    (hi : IntsAre vs ns) (hl : ns.length ≤ 63) (h1 : -1 ≤ i) (ha : ∀ p ∈ (sl, listOf vs.toArray n') :: rest, p.1 ≠ pl) :
    Tells prog w 284 2 [.ref pl] (PoolL pl sl vs n' rest c i k t1 t2 t3 n) (PoolOut (fun z => 1 ≤ z ∧ z ≤ 529200) pl sl vs n' rest) := by
  refine Tells.mk ?_
  intro p loose mean mg mb dp un gd cn cs a' ccd cl outer A₀ base h₀ L m s Q E B F X N T hk hd hu hret
  refine wpAny_call ?_
  k_with_none
  k_dflt ktr_enter
  k_with "mul" => first | exact IntMulOk.of_right (pow3_bits (by assumption) (by assumption)) | exact IntMulOk.of_right (pow5_bits (by assumption) (by assumption)) | exact IntMulOk.of_right (small_bits (by assumption) (by assumption))
  k_steps
  refine hret _ _ _ _ ?_ (by assumption) (by assumption)
  exact ⟨_, _, _, _, _, _, _, _, _, rfl, prod_bound (by assumption) (by assumption) (by assumption) (by assumption) (by assumption) (by assumption) (by assumption) (by assumption), (by assumption), rfl⟩
end
end Mine
-- part M5
namespace Mine
/-- how often p divides n -/
def oft (p n : Nat) : Nat := if h : 2 ≤ p ∧ 0 < n ∧ n % p = 0 then oft p (n / p) + 1 else 0
termination_by n
decreasing_by exact Nat.div_lt_self h.2.1 h.1
theorem oft_step {p n : Nat} (h : 2 ≤ p) (h0 : 0 < n) (h1 : n % p = 0) : oft p n = oft p (n / p) + 1 := by
  rw [oft, dif_pos ⟨h, h0, h1⟩]
theorem oft_stop {p n : Nat} (h1 : n % p ≠ 0) : oft p n = 0 := by
  rw [oft, dif_neg fun h => h1 h.2.2]
theorem often_start {p n : Int} (h : 1 ≤ n) : 1 ≤ n ∧ (0 : Int) + (oft p.toNat n.toNat : Int) = (oft p.toNat n.toNat : Int) := ⟨h, by omega⟩
theorem often_turn {p x o g : Int} (hp : 2 ≤ p) (h : 1 ≤ x) (h1 : x.fmod p = 0) (e : o + (oft p.toNat x.toNat : Int) = g) : 1 ≤ x.fdiv p ∧ (o + 1) + (oft p.toNat (x.fdiv p).toNat : Int) = g := by
  rw [Int.fmod_eq_emod_of_nonneg x (by omega)] at h1
  rw [Int.fdiv_eq_ediv_of_nonneg x (by omega)]
  obtain ⟨n, rfl⟩ := Int.eq_ofNat_of_zero_le (show 0 ≤ x by omega)
  obtain ⟨q, rfl⟩ := Int.eq_ofNat_of_zero_le (show 0 ≤ p by omega)
  have h2 : n % q = 0 := by omega
  have h3 : 0 < n := by omega
  have h4 : 2 ≤ q := by omega
  rw [← Int.natCast_ediv]
  simp only [Int.toNat_natCast] at e ⊢
  rw [oft_step h4 h3 h2] at e
  have h5 : 0 < n / q := Nat.div_pos (Nat.le_of_dvd h3 (Nat.dvd_of_mod_eq_zero h2)) (by omega)
  constructor <;> omega
theorem often_less {p x : Int} (hp : 2 ≤ p) (h : 1 ≤ x) : (x.fdiv p).toNat < x.toNat := by
  rw [Int.fdiv_eq_ediv_of_nonneg x (by omega)]
  obtain ⟨n, rfl⟩ := Int.eq_ofNat_of_zero_le (show 0 ≤ x by omega)
  obtain ⟨q, rfl⟩ := Int.eq_ofNat_of_zero_le (show 0 ≤ p by omega)
  rw [← Int.natCast_ediv]
  simp only [Int.toNat_natCast]
  exact Nat.div_lt_self (by omega) (by omega)
theorem often_end {p x o g : Int} (hp : 2 ≤ p) (h : 1 ≤ x) (h1 : x.fmod p ≠ 0) (e : o + (oft p.toNat x.toNat : Int) = g) : o = g := by
  rw [Int.fmod_eq_emod_of_nonneg x (by omega)] at h1
  obtain ⟨n, rfl⟩ := Int.eq_ofNat_of_zero_le (show 0 ≤ x by omega)
  obtain ⟨q, rfl⟩ := Int.eq_ofNat_of_zero_le (show 0 ≤ p by omega)
  have h2 : n % q ≠ 0 := by omega
  simp only [Int.toNat_natCast] at e
  rw [oft_stop h2] at e
  omega
section
local macro_rules | `(tactic| walk_at "binaryOp FloorDiv int int") => `(tactic| ((with_reducible refine floordiv_int ?h0 ?_ (Or.inl (PyProof.noPylong_of_log2 ?h1))); (case h0 => assumption); (case h1 => assumption)))
theorem often_call (prog : Program) (w : World) (q n : Int) (t u : Tok) (hp : 2 ≤ q) (hlog : q.natAbs.log2 < 9000) (hn : 1 ≤ n) (news : List (Addr × Obj)) : Tells prog w 312 1 [.int q t, .int n u] news (IntOut (oft q.toNat n.toNat) news) := by
  have hp0 : q ≠ 0 := by omega
  refine Tells.mk ?_
  intro p loose mean mg mb dp un gd cn cs a' ccd cl outer A₀ base h₀ L m s Q E B F X N T hk hd hu hret
  refine wpAny_call ?_
  k_with_none
  k_dflt ktr_enter
  k_with "exec While Compare cons nil" => k_while (fun _ x o => 1 ≤ x ∧ o + (oft q.toNat x.toNat : Int) = (oft q.toNat n.toNat : Int)) (fun _ x _ => x.toNat) "number" "often"
  k_with "state" => first | exact often_start hn | exact often_turn hp (by assumption) (by assumption) (by assumption)
  k_with "measure" => exact often_less hp (by assumption)
  k_steps
  all_goals exact hret _ _ _ _ (intOut (often_end hp (by assumption) (by assumption) (by assumption))) (by assumption) (by assumption)
end
end Mine
-- part M6
namespace Mine
abbrev symD (h1 h2 h3 h4 : Int) (u1 u2 u3 u4 : Tok) (tl ad fl fd : Addr) : Obj :=
  dictOf [⟨h1, .str (Str.ofString "texts") u1, .ref tl⟩, ⟨h2, .str (Str.ofString "atom_numbers") u2, .ref ad⟩, ⟨h3, .str (Str.ofString "functors") u3, .ref fl⟩, ⟨h4, .str (Str.ofString "functor_numbers") u4, .ref fd⟩] 4
abbrev atomL (x dx tl ad : Addr) (o : Obj) (tvs : List Value) (n1 : Nat) (oad : Obj) (rest : List (Addr × Obj)) : List (Addr × Obj) :=
  (ad, oad) :: (tl, listOf tvs.toArray n1) :: (x, instObj 154 dx) :: (dx, o) :: rest
def AtomOut (prog : Program) (w : World) (x dx tl ad : Addr) (o : Obj) (b : Nat) (rest : List (Addr × Obj)) (v : Value) (news' : List (Addr × Obj)) : Prop :=
  ∃ k t tvs n1 oad kvs c, v = .int k t ∧ oad.IsDictOf (PySem.strKind prog w) kvs ∧ PyProof.V.FlatPairs PyData.str kvs (kdpD c) ∧ c.length ≤ b ∧ tvs.length ≤ b ∧ news' = atomL x dx tl ad o tvs n1 oad rest
section
local macro_rules | `(tactic| walk_at "call ref") => `(tactic| (k_here; refine wpAny_call ?_; k_dflt (refine' code_def ?k1 ?k2 ?k3 ?k4 ?k5 ?kA ?kF ?kK ?k6 ?k7 ?k8 ?k9 ?kB ?_ ?c2 ?c3 ?c4 ?c5; (case kA => exact rfl); (case kF => exact rfl); (case kK => first | exact rfl | assumption); (case k1 => k_asm); (case k2 => k_asm); (case k3 => k_asm); (case k4 => k_asm); (case k5 => k_asm); (case k6 => k_is); (case k7 => k_is); (case k8 => ktr_room); (case k9 => exact BindsTo.of_eq rfl); (case c5 => decide); (case kB => exact locs rfl); (case c2 => exact rfl); (case c3 => exact rfl); (case c4 => exact rfl); k_whole; intro g' L' h' FG' F' N' B' X' T'; (try dsimp only); (try k_fold)); walk_say "ENTER"))
local macro_rules | `(tactic| k_all) => `(tactic| assumption)
local macro_rules | `(tactic| walk_at "call builtin:dict.get") => `(tactic| (k_here; k_dflt (refine' kdp_get2 ?T ?_; (case T => k_tabat)); intro t9; (try k_fold); walk_say "GET"))
local macro_rules | `(tactic| walk_at "call builtin:len") => `(tactic| (k_here; k_dflt (refine' PyProof.Rows.len_list ?T ?z ?_; (case T => is_list); (case z => ((try simp only [List.size_toArray]); omega))); walk_say "LEN"))
local macro_rules | `(tactic| walk_at "setItem ref str") => `(tactic| (k_here; k_dflt (refine' kdp_setItem ?F ?N ?U ?d ?f ?c ?_; (case F => k_asm); (case N => k_asm); (case U => k_updF); (case d => k_asm); (case f => k_asm); (case c => omega)); intro h' o' kvs' F' N' hd' hf'; (try dsimp only at N'); (try k_sweep); walk_say "SET"))
theorem atom_call (prog : Program) (w : World) (x dx tl ad fl fd : Addr) (h1 h2 h3 h4 : Int) (u1 u2 u3 u4 : Tok) (tvs : List Value) (n1 : Nat) (oad : Obj) (rest : List (Addr × Obj)) (kvs : List (Str × Value)) (c : List (Str × Int)) (b : Nat) (a : Str) (t : Tok)
    (hd : oad.IsDictOf (PySem.strKind prog w) kvs) (hf : PyProof.V.FlatPairs PyData.str kvs (kdpD c)) (hc : c.length ≤ b) (ht : tvs.length ≤ b) (hb : b < 1000) (lo : (ad == sysModules) = false)
    (e1 : @Ne Nat ad tl) (e2 : @Ne Nat ad x) (e3 : @Ne Nat ad dx) (e4 : @Ne Nat tl x) (e5 : @Ne Nat tl dx) (ha1 : ∀ p ∈ rest, p.1 ≠ ad) (ha2 : ∀ p ∈ rest, p.1 ≠ tl) :
    Tells prog w 88 1 [.ref x, .str a t] (atomL x dx tl ad (symD h1 h2 h3 h4 u1 u2 u3 u4 tl ad fl fd) tvs n1 oad rest) (AtomOut prog w x dx tl ad (symD h1 h2 h3 h4 u1 u2 u3 u4 tl ad fl fd) (b + 1) rest) := by
  refine Tells.mk ?_
  intro p loose mean mg mb dp un gd cn cs a' ccd cl outer A₀ base h₀ L m s Q E B F X N T hk hd' hu hret
  refine wpAny_call ?_
  k_with_none
  k_dflt ktr_enter
  k_steps
  · refine hret _ _ _ _ ?_ (by assumption) (by assumption)
    exact ⟨_, _, _, _, _, _, _, rfl, hd, hf, by omega, by omega, rfl⟩
  · rename News h₀ L _ _ => nE
    try simp only [List.push_toArray] at nE
    refine hret _ _ _ _ ?_ (by assumption) nE
    exact ⟨_, _, _, _, _, _, _, rfl, by assumption, by assumption, Nat.le_trans (kdpPut_len _ _ _) (by omega), by simp only [List.length_append, List.length_cons, List.length_nil]; omega, rfl⟩
end
end Mine
-- part M7
namespace Mine
def FunTab (prog : Program) (w : World) (ofd : Obj) (tups : List (Addr × Obj)) (b : Nat) : Prop :=
  ofd.ExactDict ∧ ∃ (es : Array DictEntry) (ep : Nat) (xs : List (List Int × Addr × Value)), ofd.data = .dict es ep ∧ es.toList = xs.map (entryOfKey (tupleKind (intKind prog w))) ∧ (xs.map (·.1)).Nodup ∧ xs.length ≤ b ∧
    ∀ x ∈ xs, (∃ ok, (x.2.1, ok) ∈ tups ∧ TupKeyObj (intKind prog w) x.1 ok) ∧ ∃ i t, x.2.2 = .int i t
theorem FunTab.empty {prog : Program} {w : World} {o : Obj} (hd : o.IsDictOf (intKind prog w) []) : FunTab prog w o [] 0 := by
  obtain ⟨es, ep, hc, hdat, _, hp, _⟩ := hd
  have he : es.toList = [] := List.length_eq_zero_iff.mp hp.length
  exact ⟨hc, es, ep, [], hdat, he, List.nodup_nil, Nat.le_refl _, fun _ hx => by simp at hx⟩
theorem FunTab.at {prog : Program} {w : World} {ofd : Obj} {tups news : List (Addr × Obj)} {b : Nat} {h₀ h : Heap} {L fd : Addr} (T : FunTab prog w ofd tups b) (N : News h₀ L h news) (hm : (fd, ofd) ∈ news) (sub : ∀ p ∈ tups, p ∈ news) :
    ∃ (xs : List (List Int × Addr × Value)), h.DictOfH (tupleKind (intKind prog w)) fd xs ∧ xs.length ≤ b ∧ ∀ x ∈ xs, (∃ ok, (x.2.1, ok) ∈ tups ∧ TupKeyObj (intKind prog w) x.1 ok) ∧ ∃ i t, x.2.2 = .int i t := by
  obtain ⟨hc, es, ep, xs, hd, he, hn, hl, hx⟩ := T
  exact ⟨xs, ⟨ofd, es, ep, N.get hm, hc, hd, he, fun x hx' => by
    obtain ⟨⟨ok, hk, t⟩, _⟩ := hx x hx'
    exact t.key (N.get (sub _ hk)), hn⟩, hl, hx⟩
section
variable {prog : Program} {w : World} {ofd ok : Obj} {tups news : List (Addr × Obj)} {u : Obj → List (Addr × Obj)} {b : Nat} {h₀ : Heap} {L fd a : Addr} {m : Str → Option Value} {A : Around} {E : Value → Shared → Prop} {s : Shared} {ks : List Int}
theorem getMethod_fun {pl : Sem Bool} {Q : Value × List Value → Shared → Prop} (N : News h₀ L s.heap news) (hm : (fd, ofd) ∈ news) (T : FunTab prog w ofd tups b) (sub : ∀ p ∈ tups, p ∈ news) (h : Q (.builtin "dict.get", [.ref fd]) s) :
    wpAny (model prog w) A (getMethod (.ref fd) "get" pl) Q E s := by
  obtain ⟨xs, hd, _⟩ := T.at N hm sub
  exact getMethod_builtin hd.typeIs PySem.F.plainAttrs_dict PySem.F.slot_dict_get PySem.F.type_dict_get (dictOfH_noDict hd) h
theorem get_fun {e : Int} {te : Tok} {Q : Value → Shared → Prop} (hu : A.units + 1 < cLine) (N : News h₀ L s.heap news) (hm : (fd, ofd) ∈ news) (lo : (fd == sysModules) = false) (T : FunTab prog w ofd tups b) (sub : ∀ p ∈ tups, p ∈ news) (hka : (a, ok) ∈ news) (tk : TupKeyObj (intKind prog w) ks ok)
    (h : ∀ i t, Q (.int i t) { s with toks := s.toks + (ks.length + 1) }) : wpAny (model prog w) A (call (.builtin "dict.get") [.ref fd, .ref a, .int e te]) Q E s := by
  obtain ⟨xs, hd, _, hx⟩ := T.at N hm sub
  refine call_meetsIn PySem.F.slot_dict_get hd.typeIs PySem.F.entry_dict_get (PySem.F.args_dict_get_3 _ _ _) (meetsH_dict_get_default (tupleKind (intKind prog w)) fd a lo (.int e te)) ⟨tupleKind_room_in1 hu, ks, xs, tk.key (N.get hka), hd, ?_⟩
  show Q _ _
  cases hf : atKey xs ks with
  | none => exact h e te
  | some p =>
    unfold atKey at hf
    obtain ⟨x, hx1, rfl⟩ := Option.map_eq_some_iff.mp hf
    obtain ⟨_, i, t, hv⟩ := hx x (List.mem_of_find?_eq_some hx1)
    show Q x.2.2 _
    rw [hv]
    exact h i t
theorem setItem_fun {e : Int} {te : Tok} {Q : Unit → Shared → Prop} (hu : A.units + 1 < cLine) (F : Fr h₀ L s.heap m) (N : News h₀ L s.heap news) (U : UpdF fd ofd news u) (T : FunTab prog w ofd tups b) (sub : ∀ p ∈ tups, p ∈ news) (hka : (a, ok) ∈ news) (tk : TupKeyObj (intKind prog w) ks ok) (hb : b ≤ 1000)
    (h : ∀ h' ofd', Fr h₀ L h' m → News h₀ L h' (u ofd') → FunTab prog w ofd' ((a, ok) :: tups) (b + 1) → Q () { s with heap := h', toks := s.toks + (ks.length + 1) }) :
    wpAny (model prog w) A (setItem (.ref fd) (.ref a) (.int e te)) Q E s := by
  obtain ⟨own, rest, rfl, hg, h1, h2⟩ := U.split
  have hm : (fd, ofd) ∈ own ++ (fd, ofd) :: rest := List.mem_append_right _ (.head _)
  obtain ⟨xs, hd, hl, hx⟩ := T.at N hm sub
  have hsz : xs.length ≤ sizeLine := by rw [sizeLine_eq]; omega
  refine wpAny_setItem_heap (hsz := hsz) (knd := tupleKind (intKind prog w)) (tupleKind_room_in1 hu) (tk.key (N.get hka)) hd fun h' hm' hs => ?_
  obtain ⟨o', es', ep', ho', hc', hd', he', _, hn'⟩ := hm'
  refine h h' o' (F.change hs (N _ hm).2.1 (N.fresh hm)) (hg o' ▸ N.setAt h1 h2 hs ho') ⟨hc', es', ep', storedH xs ks a (.int e te), hd', he', hn', ?_, fun x hx' => ⟨?_, ?_⟩⟩
  · unfold storedH
    split
    · rw [List.length_map]; omega
    · rw [List.length_append, List.length_singleton]; omega
  · rcases mem_storedH hx' with ⟨y, hy, e1, e2⟩ | ⟨e1, e2⟩
    · obtain ⟨⟨oky, hk, t⟩, _⟩ := hx y hy
      exact ⟨oky, by rw [e2]; exact .tail _ hk, by rw [e1]; exact t⟩
    · exact ⟨ok, by rw [e2]; exact .head _, by rw [e1]; exact tk⟩
  · unfold storedH at hx'
    split at hx'
    · obtain ⟨y, hy, rfl⟩ := List.mem_map.mp hx'
      unfold putAt
      split
      · exact ⟨e, te, rfl⟩
      · exact (hx y hy).2
    · rcases List.mem_append.mp hx' with hx' | hx'
      · exact (hx x hx').2
      · rw [List.mem_singleton.mp hx']; exact ⟨e, te, rfl⟩
end
end Mine
-- part M8
namespace Mine
abbrev functL (x dx fl fd : Addr) (o : Obj) (fvs : List Value) (n2 : Nat) (ofd : Obj) (rest : List (Addr × Obj)) : List (Addr × Obj) :=
  (fd, ofd) :: (fl, listOf fvs.toArray n2) :: (x, instObj 154 dx) :: (dx, o) :: rest
def Above (x dx fl fd : Addr) (rest ext : List (Addr × Obj)) : Prop := ∀ q ∈ ext, q.2.cls = .type "tuple" ∧ @LT.lt Nat _ fd q.1 ∧ @LT.lt Nat _ fl q.1 ∧ @LT.lt Nat _ x q.1 ∧ @LT.lt Nat _ dx q.1 ∧ ∀ p ∈ rest, @LT.lt Nat _ p.1 q.1
def FunOut (prog : Program) (w : World) (x dx fl fd : Addr) (o : Obj) (b : Nat) (tups rest : List (Addr × Obj)) (v : Value) (news' : List (Addr × Obj)) : Prop :=
  ∃ k t fvs n2 ofd ext, v = .int k t ∧ FunTab prog w ofd (ext ++ tups) b ∧ fvs.length ≤ b ∧ Above x dx fl fd rest ext ∧ news' = functL x dx fl fd o fvs n2 ofd (ext ++ rest)
theorem FunTab.le {prog : Program} {w : World} {ofd : Obj} {tups : List (Addr × Obj)} {b b' : Nat} (T : FunTab prog w ofd tups b) (h : b ≤ b') : FunTab prog w ofd tups b' := by
  obtain ⟨hc, es, ep, xs, hd, he, hn, hl, hx⟩ := T
  exact ⟨hc, es, ep, xs, hd, he, hn, Nat.le_trans hl h, hx⟩
theorem key_obj {prog : Program} {w : World} {k ar : Int} {t u : Tok} : TupKeyObj (intKind prog w) [k, ar] { cls := .type "tuple", data := .seq [.int k t, .int ar u].toArray } := .made (.cons (beq_self_eq_true k) (.cons (beq_self_eq_true ar) .nil))
theorem news_perm {h₀ h : Heap} {L : Addr} {a b c d e : Addr × Obj} {r : List (Addr × Obj)} (N : News h₀ L h (a :: b :: c :: d :: e :: r)) : News h₀ L h (b :: c :: d :: e :: ([a] ++ r)) := fun p hp => N p (by
  simp only [List.mem_cons, List.mem_append, List.not_mem_nil, or_false] at hp ⊢
  rcases hp with h | h | h | h | h | h
  · exact .inr (.inl h)
  · exact .inr (.inr (.inl h))
  · exact .inr (.inr (.inr (.inl h)))
  · exact .inr (.inr (.inr (.inr (.inl h))))
  · exact .inl h
  · exact .inr (.inr (.inr (.inr (.inr h)))))
theorem sub_cons {x : Addr × Obj} {l r : List (Addr × Obj)} (h : ∀ p ∈ l, p ∈ r) : ∀ p ∈ l, p ∈ x :: r := fun p hp => .tail _ (h p hp)
section
local macro_rules | `(tactic| walk_at "call ref") => `(tactic| (k_here; refine wpAny_call ?_; k_dflt (refine' code_def ?k1 ?k2 ?k3 ?k4 ?k5 ?kA ?kF ?kK ?k6 ?k7 ?k8 ?k9 ?kB ?_ ?c2 ?c3 ?c4 ?c5; (case kA => exact rfl); (case kF => exact rfl); (case kK => first | exact rfl | assumption); (case k1 => k_asm); (case k2 => k_asm); (case k3 => k_asm); (case k4 => k_asm); (case k5 => k_asm); (case k6 => k_is); (case k7 => k_is); (case k8 => ktr_room); (case k9 => exact BindsTo.of_eq rfl); (case c5 => decide); (case kB => exact locs rfl); (case c2 => exact rfl); (case c3 => exact rfl); (case c4 => exact rfl); k_whole; intro g' L' h' FG' F' N' B' X' T'; (try dsimp only); (try k_fold)); walk_say "ENTER"))
local macro_rules | `(tactic| k_all) => `(tactic| assumption)
local macro_rules | `(tactic| walk_at "getMethod ref") => `(tactic| (k_here; k_dflt (refine' getMethod_fun ?N ?m ?T ?s ?_; (case T => assumption); (case N => k_asm); (case m => k_mem); (case s => (repeat (first | assumption | refine sub_cons ?_)))); walk_say "GETM"))
local macro_rules | `(tactic| walk_at "call builtin:dict.get") => `(tactic| (k_here; k_dflt (refine' get_fun ?u ?N ?m ?lo ?T ?s ?k key_obj ?_; (case T => assumption); (case lo => assumption); (case u => ktr_units); (case N => k_asm); (case m => k_mem); (case s => (repeat (first | assumption | refine sub_cons ?_))); (case k => k_mem)); intro i9 t9; (try k_fold); walk_say "GET"))
local macro_rules | `(tactic| walk_at "call builtin:len") => `(tactic| (k_here; k_dflt (refine' PyProof.Rows.len_list ?T ?z ?_; (case T => is_list); (case z => ((try simp only [List.size_toArray]); omega))); walk_say "LEN"))
local macro_rules | `(tactic| walk_at "setItem ref ref") => `(tactic| (k_here; k_dflt (refine' setItem_fun ?u ?F ?N ?U ?T ?s ?k key_obj ?b ?_; (case u => ktr_units); (case F => k_asm); (case N => k_asm); (case U => k_updF); (case T => assumption); (case s => (repeat (first | assumption | refine sub_cons ?_))); (case k => k_mem); (case b => omega)); intro h' o' F' N' hT'; (try dsimp only at N'); (try k_sweep); walk_say "SET"))
theorem functor_call (prog : Program) (w : World) (x dx tl ad fl fd : Addr) (h1 h2 h3 h4 : Int) (u1 u2 u3 u4 : Tok) (fvs : List Value) (n2 : Nat) (ofd : Obj) (tups rest : List (Addr × Obj)) (b : Nat) (k ar : Int) (t u : Tok)
    (hT : FunTab prog w ofd tups b) (hf : fvs.length ≤ b) (hb : b < 1000) (hsub : ∀ p ∈ tups, p ∈ rest) (lo : (fd == sysModules) = false)
    (e1 : @Ne Nat fd fl) (e2 : @Ne Nat fd x) (e3 : @Ne Nat fd dx) (e4 : @Ne Nat fl x) (e5 : @Ne Nat fl dx) (ha1 : ∀ p ∈ rest, p.1 ≠ fd) (ha2 : ∀ p ∈ rest, p.1 ≠ fl) :
    Tells prog w 102 1 [.ref x, .int k t, .int ar u] (functL x dx fl fd (symD h1 h2 h3 h4 u1 u2 u3 u4 tl ad fl fd) fvs n2 ofd rest) (FunOut prog w x dx fl fd (symD h1 h2 h3 h4 u1 u2 u3 u4 tl ad fl fd) (b + 1) tups rest) := by
  refine Tells.mk ?_
  intro p loose mean mg mb dp un gd cn cs a' ccd cl outer A₀ base h₀ L m s Q E B F X N T hk hd' hu hret
  refine wpAny_call ?_
  k_with_none
  k_dflt ktr_enter
  k_steps
  · refine hret _ _ _ _ ?_ (by assumption) (cb_drop (by assumption) drop1)
    exact ⟨_, _, _, _, _, [], rfl, hT.le (Nat.le_succ b), by omega, (fun _ h => nomatch h), rfl⟩
  · rename (_ ∧ _ ∧ _ ∧ _ ∧ AllLt _ rest) => l1
    rename News h₀ L _ _ => nE
    try simp only [List.push_toArray] at nE
    refine hret _ _ _ _ ?_ (by assumption) (news_perm nE)
    exact ⟨_, _, _, _, _, [_], rfl, by assumption, by simp only [List.length_append, List.length_cons, List.length_nil]; omega, fun q hq => by
      rw [List.mem_singleton.mp hq]
      exact ⟨rfl, l1.1, l1.2.1, l1.2.2.1, l1.2.2.2.1, ktn_ltOf l1.2.2.2.2⟩, rfl⟩
end
end Mine
-- part M9
namespace Mine
abbrev symL (x dx tl ad fl fd : Addr) (o : Obj) (tvs : List Value) (n1 : Nat) (oad : Obj) (fvs : List Value) (n2 : Nat) (ofd : Obj) (R : List (Addr × Obj)) : List (Addr × Obj) :=
  (ad, oad) :: (tl, listOf tvs.toArray n1) :: (x, instObj 154 dx) :: (dx, o) :: (fd, ofd) :: (fl, listOf fvs.toArray n2) :: R
def SymOk (prog : Program) (w : World) (b : Nat) (tvs : List Value) (oad : Obj) (fvs : List Value) (ofd : Obj) (tups : List (Addr × Obj)) : Prop :=
  (∃ kvs c, oad.IsDictOf (PySem.strKind prog w) kvs ∧ PyProof.V.FlatPairs PyData.str kvs (kdpD c) ∧ c.length ≤ b) ∧ tvs.length ≤ b ∧ fvs.length ≤ b ∧ FunTab prog w ofd tups b
structure SymAddr (x dx tl ad fl fd : Addr) : Prop where
  la : (ad == sysModules) = false
  lf : (fd == sysModules) = false
  a1 : @Ne Nat ad tl
  a2 : @Ne Nat ad x
  a3 : @Ne Nat ad dx
  a4 : @Ne Nat tl x
  a5 : @Ne Nat tl dx
  b1 : @Ne Nat fd fl
  b2 : @Ne Nat fd x
  b3 : @Ne Nat fd dx
  b4 : @Ne Nat fl x
  b5 : @Ne Nat fl dx
  c1 : @Ne Nat ad fd
  c2 : @Ne Nat ad fl
  c3 : @Ne Nat tl fd
  c4 : @Ne Nat tl fl
def SymOff (tl ad fl fd : Addr) (R : List (Addr × Obj)) : Prop := (∀ p ∈ R, p.1 ≠ ad) ∧ (∀ p ∈ R, p.1 ≠ tl) ∧ (∀ p ∈ R, p.1 ≠ fd) ∧ ∀ p ∈ R, p.1 ≠ fl
def AboveS (x dx tl ad fl fd : Addr) (R ext : List (Addr × Obj)) : Prop := ∀ q ∈ ext, q.2.cls = .type "tuple" ∧ @LT.lt Nat _ ad q.1 ∧ @LT.lt Nat _ tl q.1 ∧ @LT.lt Nat _ fd q.1 ∧ @LT.lt Nat _ fl q.1 ∧ @LT.lt Nat _ x q.1 ∧ @LT.lt Nat _ dx q.1 ∧ ∀ p ∈ R, @LT.lt Nat _ p.1 q.1
theorem off_cons {a : Addr} {q : Addr × Obj} {l : List (Addr × Obj)} (h1 : @Ne Nat q.1 a) (h2 : ∀ p ∈ l, p.1 ≠ a) : ∀ p ∈ q :: l, p.1 ≠ a := fun p hp => by
  rcases List.mem_cons.mp hp with rfl | hp
  · exact h1
  · exact h2 p hp
theorem sym_toFunct {h₀ h : Heap} {L : Addr} {a b c d e f : Addr × Obj} {r : List (Addr × Obj)} (N : News h₀ L h (a :: b :: c :: d :: e :: f :: r)) : News h₀ L h (e :: f :: c :: d :: a :: b :: r) := fun p hp => N p (by
  simp only [List.mem_cons] at hp ⊢
  rcases hp with h | h | h | h | h | h | h <;> simp [h])
theorem sym_ofFunct {h₀ h : Heap} {L : Addr} {a b c d e f : Addr × Obj} {x r : List (Addr × Obj)} (N : News h₀ L h (e :: f :: c :: d :: (x ++ (a :: b :: r)))) : News h₀ L h (a :: b :: c :: d :: e :: f :: (x ++ r)) := fun p hp => N p (by
  simp only [List.mem_cons, List.mem_append] at hp ⊢
  rcases hp with h | h | h | h | h | h | h | h <;> simp [h])
def FuncOut (prog : Program) (w : World) (x dx tl ad fl fd : Addr) (o : Obj) (b : Nat) (tups R : List (Addr × Obj)) (v : Value) (news' : List (Addr × Obj)) : Prop :=
  ∃ k t tvs n1 oad fvs n2 ofd ext, v = .int k t ∧ SymOk prog w b tvs oad fvs ofd (ext ++ tups) ∧ AboveS x dx tl ad fl fd R ext ∧ news' = symL x dx tl ad fl fd o tvs n1 oad fvs n2 ofd (ext ++ R)
theorem above_sym {x dx tl ad fl fd : Addr} {o1 o2 : Obj} {R ext : List (Addr × Obj)} (h : Above x dx fl fd ((ad, o1) :: (tl, o2) :: R) ext) : AboveS x dx tl ad fl fd R ext := fun q hq => by
  obtain ⟨a, b, c, d, e, f⟩ := h q hq
  exact ⟨a, f _ (.head _), f _ (.tail _ (.head _)), b, c, d, e, fun p hp => f p (.tail _ (.tail _ hp))⟩
theorem tells_atom {prog : Program} {w : World} {x dx tl ad : Addr} {o : Obj} {b : Nat} {rest : List (Addr × Obj)} {need : Nat} {as : List Value} {f : Addr} {news : List (Addr × Obj)} {p : Program} {loose : List Str} {mean : ExcName → Option Value} {mg mb : Str → Option Value} {dp un : Nat} {gd : Option (List Code)} {cn : Str} {cs : Scope} {a : Addr} {ccd : Value} {cl : List (Str × Addr)} {outer : List Env} {A₀ : Around} {base h₀ : Heap} {L : Addr} {m : Str → Option Value} {s : Shared} {Q E : Value → Shared → Prop}
    (C : Tells prog w f need as news (AtomOut prog w x dx tl ad o b rest)) (B : Below A₀ base outer h₀) (F : Fr h₀ L s.heap m) (X : (hd.heap_39 w.params).In h₀) (N : News h₀ L s.heap news) (T : Top p loose mean mg mb h₀) (hk : cs.kind = .function)
    (hd : dp + need < recursionLimit) (hu : un + 8 * need < cLine) (hret : ∀ k t' tvs n1 oad kvs c h' tk', oad.IsDictOf (PySem.strKind prog w) kvs → PyProof.V.FlatPairs PyData.str kvs (kdpD c) → c.length ≤ b → tvs.length ≤ b → Fr h₀ L h' m → News h₀ L h' (atomL x dx tl ad o tvs n1 oad rest) → Q (.int k t') { s with heap := h', toks := tk' }) :
    wpAny (model prog w) (ktrTop dp un gd cn cs L a ccd cl outer) (call (.ref f) as) Q E s :=
  tells_use C B F X N T hk hd hu fun v news' h' tk' P F' N' => by
    obtain ⟨k, t, tvs, n1, oad, kvs, c, rfl, h1, h2, h3, h4, rfl⟩ := P
    exact hret k t tvs n1 oad kvs c h' tk' h1 h2 h3 h4 F' N'
theorem tells_fun {prog : Program} {w : World} {x dx fl fd : Addr} {o : Obj} {b : Nat} {tups rest : List (Addr × Obj)} {need : Nat} {as : List Value} {f : Addr} {news : List (Addr × Obj)} {p : Program} {loose : List Str} {mean : ExcName → Option Value} {mg mb : Str → Option Value} {dp un : Nat} {gd : Option (List Code)} {cn : Str} {cs : Scope} {a : Addr} {ccd : Value} {cl : List (Str × Addr)} {outer : List Env} {A₀ : Around} {base h₀ : Heap} {L : Addr} {m : Str → Option Value} {s : Shared} {Q E : Value → Shared → Prop}
    (C : Tells prog w f need as news (FunOut prog w x dx fl fd o b tups rest)) (B : Below A₀ base outer h₀) (F : Fr h₀ L s.heap m) (X : (hd.heap_39 w.params).In h₀) (N : News h₀ L s.heap news) (T : Top p loose mean mg mb h₀) (hk : cs.kind = .function)
    (hd : dp + need < recursionLimit) (hu : un + 8 * need < cLine) (hret : ∀ k t' fvs n2 ofd ext h' tk', FunTab prog w ofd (ext ++ tups) b → fvs.length ≤ b → Above x dx fl fd rest ext → Fr h₀ L h' m → News h₀ L h' (functL x dx fl fd o fvs n2 ofd (ext ++ rest)) → Q (.int k t') { s with heap := h', toks := tk' }) :
    wpAny (model prog w) (ktrTop dp un gd cn cs L a ccd cl outer) (call (.ref f) as) Q E s :=
  tells_use C B F X N T hk hd hu fun v news' h' tk' P F' N' => by
    obtain ⟨k, t, fvs, n2, ofd, ext, rfl, h1, h2, h3, rfl⟩ := P
    exact hret k t fvs n2 ofd ext h' tk' h1 h2 h3 F' N'
section
local macro_rules | `(tactic| walk_at "call ref") => `(tactic| (k_here; refine wpAny_call ?_; k_dflt (refine' code_def ?k1 ?k2 ?k3 ?k4 ?k5 ?kA ?kF ?kK ?k6 ?k7 ?k8 ?k9 ?kB ?_ ?c2 ?c3 ?c4 ?c5; (case kA => exact rfl); (case kF => exact rfl); (case kK => first | exact rfl | assumption); (case k1 => k_asm); (case k2 => k_asm); (case k3 => k_asm); (case k4 => k_asm); (case k5 => k_asm); (case k6 => k_is); (case k7 => k_is); (case k8 => ktr_room); (case k9 => exact BindsTo.of_eq rfl); (case c5 => decide); (case kB => exact locs rfl); (case c2 => exact rfl); (case c3 => exact rfl); (case c4 => exact rfl); k_whole; intro g' L' h' FG' F' N' B' X' T'; (try dsimp only); (try k_fold)); walk_say "ENTER"))
local macro_rules | `(tactic| walk_at "call ref") => `(tactic| (k_here; k_dflt (refine' tells_atom (atom_call _ _ _ _ _ _ _ _ _ _ _ _ _ _ _ _ _ _ _ _ _ _ _ _ _ ?q1 ?q2 ?q3 ?q4 ?q5 ?q6 ?q7 ?q8 ?q9 ?qa ?qb ?qc ?qd) ?k1 ?k2 ?k3 ?k4 ?k5 ?kK ?kd ?ku ?_; (case k1 => k_asm); (case k2 => k_asm); (case k3 => k_asm); (case k4 => first | k_asm | exact cb_drop (by k_asm) drop1 | exact cb_drop (by k_asm) drop2); (case k5 => k_asm); (case kK => first | exact rfl | assumption); (case kd => first | omega | ktr_room | ((try simp only [depth_under_make, depth_deeper]); (try dsimp only [ktrTop]); omega)); (case ku => first | omega | ktr_units | ((try simp only [units_under_make, units_deeper]); (try dsimp only [ktrTop]); omega)); (case q1 => assumption); (case q2 => assumption); (case q3 => assumption); (case q4 => assumption); (case q5 => assumption); (case q6 => exact SymAddr.la (by assumption)); (case q7 => exact SymAddr.a1 (by assumption)); (case q8 => exact SymAddr.a2 (by assumption)); (case q9 => exact SymAddr.a3 (by assumption)); (case qa => exact SymAddr.a4 (by assumption)); (case qb => exact SymAddr.a5 (by assumption)); (case qc => assumption); (case qd => assumption)); intro k9 t9 tvs9 n9 oad9 kvs9 c9 h9 tk9 hp1 hp2 hp3 hp4 F9 N9; (try dsimp only); (try k_fold); walk_say "CONTRACT atom_call"))
local macro_rules | `(tactic| walk_at "call ref") => `(tactic| (k_here; k_dflt (refine' tells_fun (functor_call _ _ _ _ _ _ _ _ _ _ _ _ _ _ _ _ _ _ _ _ _ _ _ _ _ _ ?q1 ?q2 ?q3 ?q4 ?q5 ?q6 ?q7 ?q8 ?q9 ?qa ?qb ?qc) ?k1 ?k2 ?k3 ?k4 ?k5 ?kK ?kd ?ku ?_; (case k1 => k_asm); (case k2 => k_asm); (case k3 => k_asm); (case k4 => exact sym_toFunct (by k_asm)); (case k5 => k_asm); (case kK => first | exact rfl | assumption); (case kd => first | omega | ktr_room | ((try simp only [depth_under_make, depth_deeper]); (try dsimp only [ktrTop]); omega)); (case ku => first | omega | ktr_units | ((try simp only [units_under_make, units_deeper]); (try dsimp only [ktrTop]); omega)); (case q1 => assumption); (case q2 => assumption); (case q3 => assumption); (case q4 => exact sub_cons (sub_cons (by assumption))); (case q5 => exact SymAddr.lf (by assumption)); (case q6 => exact SymAddr.b1 (by assumption)); (case q7 => exact SymAddr.b2 (by assumption)); (case q8 => exact SymAddr.b3 (by assumption)); (case q9 => exact SymAddr.b4 (by assumption)); (case qa => exact SymAddr.b5 (by assumption)); (case qb => exact off_cons (SymAddr.c1 (by assumption)) (off_cons (SymAddr.c3 (by assumption)) (by assumption))); (case qc => exact off_cons (SymAddr.c2 (by assumption)) (off_cons (SymAddr.c4 (by assumption)) (by assumption)))); intro k9 t9 fvs9 n9 ofd9 ext9 h9 tk9 hp5 hp6 hp7 F9 N9; (try dsimp only); (try k_fold); walk_say "CONTRACT functor_call"))
theorem func_call (prog : Program) (w : World) (x dx tl ad fl fd : Addr) (h1 h2 h3 h4 : Int) (u1 u2 u3 u4 : Tok) (tvs : List Value) (n1 : Nat) (oad : Obj) (fvs : List Value) (n2 : Nat) (ofd : Obj) (tups R : List (Addr × Obj)) (b : Nat) (a : Str) (ar : Int) (t u : Tok)
    (hS : SymOk prog w b tvs oad fvs ofd tups) (hb : b < 999) (hA : SymAddr x dx tl ad fl fd) (hO : SymOff tl ad fl fd R) (hsub : ∀ p ∈ tups, p ∈ R) :
    Tells prog w 109 2 [.ref x, .str a t, .int ar u] (symL x dx tl ad fl fd (symD h1 h2 h3 h4 u1 u2 u3 u4 tl ad fl fd) tvs n1 oad fvs n2 ofd R) (FuncOut prog w x dx tl ad fl fd (symD h1 h2 h3 h4 u1 u2 u3 u4 tl ad fl fd) (b + 1) tups R) := by
  obtain ⟨⟨kvs, c, g1, g2, g3⟩, g4, g5, g6⟩ := hS
  obtain ⟨o1, o2, o3, o4⟩ := hO
  have hb1 : b < 1000 := by omega
  have r1 : ∀ p ∈ (fd, ofd) :: (fl, listOf fvs.toArray n2) :: R, p.1 ≠ ad := off_cons (Ne.symm hA.c1) (off_cons (Ne.symm hA.c2) o1)
  have r2 : ∀ p ∈ (fd, ofd) :: (fl, listOf fvs.toArray n2) :: R, p.1 ≠ tl := off_cons (Ne.symm hA.c3) (off_cons (Ne.symm hA.c4) o2)
  refine Tells.mk ?_
  intro p loose mean mg mb dp un gd cn cs a' ccd cl outer A₀ base h₀ L m s Q E B F X N T hk hd' hu hret
  refine wpAny_call ?_
  k_with_none
  k_dflt ktr_enter
  k_steps
  refine hret _ _ _ _ ?_ (by assumption) (sym_ofFunct (by assumption))
  exact ⟨_, _, _, _, _, _, _, _, _, rfl, ⟨⟨_, _, by assumption, by assumption, by assumption⟩, by assumption, by assumption, by assumption⟩, above_sym (by assumption), rfl⟩
end
end Mine
-- part MA
namespace Mine
def AllStrs : List Value → Prop
  | [] => True
  | v :: r => (∃ a t, v = .str a t) ∧ AllStrs r
def RowsIn (ext : List (Addr × Obj)) : List Value → Prop
  | [] => True
  | v :: r => (∃ q a t k u n, v = .ref q ∧ (q, ({ cls := .type "tuple", data := .seq [.str a t, .int k u].toArray n } : Obj)) ∈ ext) ∧ RowsIn ext r
def AtomsOut (news : List (Addr × Obj)) (v : Value) (news' : List (Addr × Obj)) : Prop :=
  ∃ t items n, v = .ref t ∧ AllStrs items ∧ items.length ≤ 40 ∧ (∀ p ∈ news, @LT.lt Nat _ p.1 t) ∧ news' = (t, ({ cls := .type "tuple", data := .seq items.toArray n } : Obj)) :: news
section
local macro_rules | `(tactic| walk_at "call ref") => `(tactic| (k_here; refine wpAny_call ?_; k_dflt (refine' code_def ?k1 ?k2 ?k3 ?k4 ?k5 ?kA ?kF ?kK ?k6 ?k7 ?k8 ?k9 ?kB ?_ ?c2 ?c3 ?c4 ?c5; (case kA => exact rfl); (case kF => exact rfl); (case kK => first | exact rfl | assumption); (case k1 => k_asm); (case k2 => k_asm); (case k3 => k_asm); (case k4 => k_asm); (case k5 => k_asm); (case k6 => k_is); (case k7 => k_is); (case k8 => ktr_room); (case k9 => exact BindsTo.of_eq rfl); (case c5 => decide); (case kB => exact locs rfl); (case c2 => exact rfl); (case c3 => exact rfl); (case c4 => exact rfl); k_whole; intro g' L' h' FG' F' N' B' X' T'; (try dsimp only); (try k_fold)); walk_say "ENTER"))
theorem atoms_call (prog : Program) (w : World) (news : List (Addr × Obj)) : Tells prog w 60 1 [] news (AtomsOut news) := by
  refine Tells.mk ?_
  intro p loose mean mg mb dp un gd cn cs a' ccd cl outer A₀ base h₀ L m s Q E B F X N T hk hd hu hret
  refine wpAny_call ?_
  k_with_none
  k_dflt ktr_enter
  k_steps
  refine hret _ _ _ _ ?_ (by assumption) (by assumption)
  exact ⟨_, _, _, rfl, by repeat (first | exact trivial | refine ⟨⟨_, _, rfl⟩, ?_⟩), Nat.le_of_ble_eq_true rfl, by assumption, rfl⟩
def FunctorsOut (news : List (Addr × Obj)) (v : Value) (news' : List (Addr × Obj)) : Prop :=
  ∃ t items n ext, v = .ref t ∧ RowsIn ext items ∧ items.length ≤ 40 ∧ (∀ p ∈ news, p ∈ ext) ∧ (∀ p ∈ ext, p ∈ news ∨ p.2.cls = .type "tuple") ∧ (∀ p ∈ ext, @LT.lt Nat _ p.1 t) ∧ news' = (t, ({ cls := .type "tuple", data := .seq items.toArray n } : Obj)) :: ext
theorem functors_call (prog : Program) (w : World) (news : List (Addr × Obj)) : Tells prog w 67 1 [] news (FunctorsOut news) := by
  refine Tells.mk ?_
  intro p loose mean mg mb dp un gd cn cs a' ccd cl outer A₀ base h₀ L m s Q E B F X N T hk hd hu hret
  refine wpAny_call ?_
  k_with_none
  k_dflt ktr_enter
  k_steps
  refine hret _ _ _ _ ?_ (by assumption) (by assumption)
  refine ⟨_, _, _, _, rfl, ?_, Nat.le_of_ble_eq_true rfl, ?_, ?_, ?_, rfl⟩
  · repeat (first | exact trivial | refine ⟨⟨_, _, _, _, _, _, rfl, by k_mem⟩, ?_⟩)
  · intro p hp
    repeat (first | exact hp | refine List.Mem.tail _ ?_)
  · repeat (first | exact (fun p hp => .inl hp) | refine List.forall_mem_cons.mpr ⟨.inr rfl, ?_⟩)
  · refine ktn_ltOf ?_
    dsimp only [AllLt]
    assumption
end
end Mine
-- part MB
namespace Mine
section
variable {prog : Program} {w : World} {A : Around} {E : Value → Shared → Prop} {s : Shared} {env : Env} {h₀ : Heap} {x : Str} {body : List Stmt} {Q : Flow → Shared → Prop}
def TupEnd (h₀ : Heap) (L : Addr) (J : (Str → Option Value) → List (Addr × Obj) → Prop) (own : List (Addr × Obj)) (adr : List Addr) (s₁ s₂ : Shared) : Prop :=
  ∃ h' tk m' news' nx, s₂ = { s₁ with heap := h', toks := tk } ∧ Fr h₀ L h' m' ∧ News h₀ L h' news' ∧ (∀ p ∈ nx, p ∈ news') ∧ (∀ p ∈ own, p ∈ news') ∧ (∀ p ∈ nx, p.1 ∈ adr ∨ p.2.cls ≠ .type "tuple_iterator") ∧ J m' nx
def TupPost (h₀ : Heap) (L : Addr) (J : (Str → Option Value) → List (Addr × Obj) → Prop) (own : List (Addr × Obj)) (adr : List Addr) (s₁ : Shared) (Q : Flow → Shared → Prop) (f : Flow) (s₂ : Shared) : Prop :=
  match f with
  | .ret v => Q (.ret v) s₂
  | .brk => Q .next s₂
  | _ => TupEnd h₀ L J own adr s₁ s₂
theorem iter_tup {t : Addr} {items : List Value} {nt : Nat} {m₀ : Str → Option Value} {news : List (Addr × Obj)} (J : Nat → (Str → Option Value) → List (Addr × Obj) → Prop)
    (hh : A.handled = none) (F : Fr h₀ env.locals s.heap m₀) (N : News h₀ env.locals s.heap ((t, ({ cls := .type "tuple", data := .seq items.toArray nt } : Obj)) :: news)) (hne : ∀ p ∈ news, p.1 ≠ t) (hj : J 0 m₀ news)
    (turn : ∀ i v m₁ news₁ h tk own, items[i]? = some v → J i m₁ news₁ → (∀ p ∈ own, ∀ b ∈ news.map (·.1), p.1 ≠ b) → Fr h₀ env.locals h (fun y => if y = x then some v else m₁ y) → News h₀ env.locals h (news₁ ++ own) →
      wpAny (model prog w) A (execs body env) (TupPost h₀ env.locals (J (i + 1)) own (news.map (·.1)) { s with heap := h, toks := tk } Q) E { s with heap := h, toks := tk })
    (done : ∀ m₁ news₁ h tk, J items.length m₁ news₁ → Fr h₀ env.locals h m₁ → News h₀ env.locals h news₁ → Q .next { s with heap := h, toks := tk }) :
    wpAny (model prog w) A (pyIter (.ref t)) (fun it s₂ => LoopAtV prog w A h₀ env x body Q E it s₂) E s := by
  have ht0 := N _ (.head _)
  have hls : s.heap.IsTuple t items.toArray := ⟨_, ht0.1, rfl, nt, rfl⟩
  have hlt : t < s.heap.objs.size := Heap.lt_size ht0.1
  have hneI : t ≠ s.heap.objs.size := Nat.ne_of_lt hlt
  have Nn : News h₀ env.locals s.heap news := fun p hp => N p (.tail _ hp)
  refine wpAny_pyIter_tuple hls ?_
  have W := Walks.tuple (prog := prog) (w := w) hh s.heap.objs.size t hneI items.toArray
  have hlen : items.toArray.size = items.length := by simp
  rw [hlen] at W
  refine ⟨_, _, _, items.length, _, _, m₀, news, J, rfl, W, ?_, ?_, ?_, ⟨⟨_, Heap.get?_push_size _ rfl, rfl, rfl⟩, hls.push _⟩, F.push _, (fun p hp => ⟨Heap.get?_push_of_some _ (Nn p hp).1, (Nn p hp).2⟩), hj, ?_, ?_⟩
  · intro hm
    rcases List.mem_cons.mp hm with e | hm
    · exact absurd F.ns.lt (e ▸ Nat.lt_irrefl _)
    · exact ht0.2.1 (List.mem_singleton.mp hm).symm
  · intro b hb
    rw [List.mem_singleton.mp hb]
    exact next_is_new F
  · intro p hp hI
    exact absurd (Heap.lt_size (Nn p hp).1) ((List.mem_singleton.mp hI) ▸ Nat.lt_irrefl _)
  · rintro i v m₁ news₁ s₁ own ⟨hh', tk', rfl⟩ hin hP hJ hoff hown _ hall hst F₁ N₁
    have hI0 : h₀.get? s.heap.objs.size = none := next_is_new F
    have hsep : ∀ p ∈ own, ∀ b ∈ news.map (·.1), p.1 ≠ b := by
      intro p hp b hb e
      obtain ⟨q, hq, rfl⟩ := List.mem_map.mp hb
      rcases List.mem_cons.mp (hown p hp) with h1 | h1
      · exact absurd (Heap.lt_size (Nn q hq).1) (by rw [← e, h1]; exact Nat.lt_irrefl _)
      · exact hne q hq (by rw [← e]; exact List.mem_singleton.mp h1)
    have hv : items[i]? = some v := by simpa using hP
    have N₂ : News h₀ env.locals hh' (news₁ ++ own) := fun p hp => N₁ p ((List.mem_append.mp hp).elim (fun h => List.mem_append.mpr (.inr h)) fun h => List.mem_append.mpr (.inl h))
    refine wpAny_mono (turn i v m₁ news₁ hh' tk' own hv hJ hsep F₁ N₂) (fun f s₂ p => ?_) fun _ _ e => e
    have fin : TupEnd h₀ env.locals (J (i + 1)) own (news.map (·.1)) { s with heap := hh', toks := tk' } s₂ → LoopStepU h₀ env.locals [s.heap.objs.size] own (J (i + 1)) { s with heap := hh', toks := tk' } .next s₂ := by
      rintro ⟨h', tk, m', news', nx, e, F', N', hn, ho, ha, hm⟩
      refine ⟨rfl, h', tk, m', nx, e, F', fun p hp => N' p ((List.mem_append.mp hp).elim (ho p) (hn p)), fun p hp hq => ?_, hm⟩
      have hq' : p.1 = s.heap.objs.size := List.mem_singleton.mp hq
      rcases ha p hp with h1 | h1
      · obtain ⟨q, hq1, hq2⟩ := List.mem_map.mp h1
        exact absurd (Heap.lt_size (Nn q hq1).1) (by rw [hq2, hq']; exact Nat.lt_irrefl _)
      · obtain ⟨oI, heI, hcI, _⟩ := hst.1
        have hmI := hall s.heap.objs.size (List.mem_cons_self ..) hI0 oI heI
        have g1 := (N' _ (ho _ hmI)).1
        have g2 := (N' p (hn p hp)).1
        rw [hq'] at g2
        exact h1 ((Option.some.inj (g2.symm.trans g1)) ▸ hcI)
    cases f with
    | ret v => exact .ret p
    | brk => exact .brk p
    | next => exact .next (fin p)
    | cont => exact .cont (fin p)
  · rintro h' tk m' news' F' N' _ hJ
    exact done m' news' h' tk hJ F' N'
end
end Mine
-- part MD
namespace Mine
abbrev tupO (items : List Value) (n : Nat) : Obj := { cls := .type "tuple", data := .seq items.toArray n }
theorem off_of_cls {h₀ h : Heap} {L a : Addr} {o : Obj} {l : List (Addr × Obj)} (N : News h₀ L h l) (hm : (a, o) ∈ l) (hc : o.cls ≠ .type "tuple") {tups : List (Addr × Obj)} (hs : ∀ p ∈ tups, p ∈ l) (ht : ∀ p ∈ tups, p.2.cls = .type "tuple") : ∀ p ∈ tups, p.1 ≠ a := fun p hp e => by
  have g1 := (N _ (hs p hp)).1
  have g2 := (N _ hm).1
  rw [e] at g1
  have g3 : p.2 = o := Option.some.inj (g1.symm.trans g2)
  exact hc (g3 ▸ ht p hp)
theorem off_append {l r : List (Addr × Obj)} {a : Addr} (h1 : ∀ p ∈ l, p.1 ≠ a) (h2 : ∀ p ∈ r, p.1 ≠ a) : ∀ p ∈ l ++ r, p.1 ≠ a := fun p hp => (List.mem_append.mp hp).elim (h1 p) (h2 p)
theorem SymOk.cls {prog : Program} {w : World} {b : Nat} {tvs fvs : List Value} {oad ofd : Obj} {tups : List (Addr × Obj)} (S : SymOk prog w b tvs oad fvs ofd tups) : oad.cls = .type "dict" ∧ ofd.cls = .type "dict" := by
  obtain ⟨⟨kvs, c, ⟨es, ep, hc, _⟩, _⟩, _, _, ⟨hc2, _⟩⟩ := S
  exact ⟨hc.1, hc2.1⟩
theorem type_ne {a b : String} (h : a ≠ b) : Value.type a ≠ Value.type b := fun e => h (Value.type.inj e)
section
variable {prog : Program} {w : World} {A : Around} {E : Value → Shared → Prop} {s : Shared} {env : Env} {h₀ h : Heap} {L : Addr} {y : Str} {body : List Stmt} {Q : Flow → Shared → Prop}
theorem sym_off {x dx tl ad fl fd : Addr} {o : Obj} {tvs fvs : List Value} {n1 n2 b : Nat} {oad ofd : Obj} {tups R : List (Addr × Obj)} (N : News h₀ L h (symL x dx tl ad fl fd o tvs n1 oad fvs n2 ofd (tups ++ R)))
    (S : SymOk prog w b tvs oad fvs ofd tups) (hT : ∀ q ∈ tups, q.2.cls = .type "tuple") (hO : SymOff tl ad fl fd R) : SymOff tl ad fl fd (tups ++ R) := by
  obtain ⟨c1, c2⟩ := S.cls
  have hs : ∀ p ∈ tups, p ∈ symL x dx tl ad fl fd o tvs n1 oad fvs n2 ofd (tups ++ R) := fun p hp => by
    simp only [symL, List.mem_cons, List.mem_append]
    exact .inr (.inr (.inr (.inr (.inr (.inr (.inl hp))))))
  exact ⟨off_append (off_of_cls N (o := oad) (by simp [symL]) (by rw [c1]; exact type_ne (by decide)) hs hT) hO.1,
    off_append (off_of_cls N (o := listOf tvs.toArray n1) (by simp [symL]) (type_ne (by decide)) hs hT) hO.2.1,
    off_append (off_of_cls N (o := ofd) (by simp [symL]) (by rw [c2]; exact type_ne (by decide)) hs hT) hO.2.2.1,
    off_append (off_of_cls N (o := listOf fvs.toArray n2) (by simp [symL]) (type_ne (by decide)) hs hT) hO.2.2.2⟩
theorem sym_off2 {x dx tl ad fl fd : Addr} {o : Obj} {tvs fvs : List Value} {n1 n2 b : Nat} {oad ofd : Obj} {tups rows R R' : List (Addr × Obj)} (N : News h₀ L h (symL x dx tl ad fl fd o tvs n1 oad fvs n2 ofd R'))
    (S : SymOk prog w b tvs oad fvs ofd tups) (hs' : ∀ p ∈ rows, p ∈ R') (hT : ∀ q ∈ rows, q.2.cls = .type "tuple") (hO : SymOff tl ad fl fd R) : SymOff tl ad fl fd (rows ++ R) := by
  obtain ⟨c1, c2⟩ := S.cls
  have hs : ∀ p ∈ rows, p ∈ symL x dx tl ad fl fd o tvs n1 oad fvs n2 ofd R' := fun p hp => by
    simp only [symL, List.mem_cons]
    exact .inr (.inr (.inr (.inr (.inr (.inr (hs' p hp))))))
  exact ⟨off_append (off_of_cls N (o := oad) (by simp [symL]) (by rw [c1]; exact type_ne (by decide)) hs hT) hO.1,
    off_append (off_of_cls N (o := listOf tvs.toArray n1) (by simp [symL]) (type_ne (by decide)) hs hT) hO.2.1,
    off_append (off_of_cls N (o := ofd) (by simp [symL]) (by rw [c2]; exact type_ne (by decide)) hs hT) hO.2.2.1,
    off_append (off_of_cls N (o := listOf fvs.toArray n2) (by simp [symL]) (type_ne (by decide)) hs hT) hO.2.2.2⟩
def InitPost (prog : Program) (w : World) (h₀ : Heap) (L : Addr) (s : Shared) (m : Str → Option Value) (x dx tl ad fl fd : Addr) (o : Obj) (b : Nat) (tups R : List (Addr × Obj)) (f : Flow) (s₂ : Shared) : Prop :=
  f = .next ∧ ∃ h' tk' tvs n1 oad fvs n2 ofd ext, s₂ = { s with heap := h', toks := tk' } ∧ Fr h₀ L h' m ∧ SymOk prog w (b + 1) tvs oad fvs ofd (ext ++ tups) ∧ (∀ q ∈ ext, q.2.cls = .type "tuple") ∧ News h₀ L h' (symL x dx tl ad fl fd o tvs n1 oad fvs n2 ofd (ext ++ (tups ++ R)))
theorem init_loop {t : Addr} {items : List Value} {nt : Nat} {m₀ : Str → Option Value} {x dx tl ad fl fd : Addr} {o : Obj} {tvs fvs : List Value} {n1 n2 b0 : Nat} {oad ofd : Obj} {tups R : List (Addr × Obj)}
    (hb : b0 + items.length < 900) (hh : A.handled = none) (F : Fr h₀ env.locals s.heap m₀) (N : News h₀ env.locals s.heap ((t, tupO items nt) :: symL x dx tl ad fl fd o tvs n1 oad fvs n2 ofd (tups ++ R)))
    (ht : ∀ p ∈ symL x dx tl ad fl fd o tvs n1 oad fvs n2 ofd (tups ++ R), p.1 ≠ t) (hS : SymOk prog w b0 tvs oad fvs ofd tups) (hT : ∀ q ∈ tups, q.2.cls = .type "tuple") (hO : SymOff tl ad fl fd R) (hA : SymAddr x dx tl ad fl fd)
    (turn : ∀ (i : Nat) v tvs n1 oad fvs n2 ofd tups b own h tk, items[i]? = some v → SymOk prog w b tvs oad fvs ofd tups → b < 900 → SymAddr x dx tl ad fl fd → SymOff tl ad fl fd (tups ++ (R ++ own)) →
      Fr h₀ env.locals h (fun z => if z = y then some v else m₀ z) → News h₀ env.locals h (symL x dx tl ad fl fd o tvs n1 oad fvs n2 ofd (tups ++ (R ++ own))) →
      wpAny (model prog w) A (execs body env) (InitPost prog w h₀ env.locals { s with heap := h, toks := tk } (fun z => if z = y then some v else m₀ z) x dx tl ad fl fd o b tups (R ++ own)) E { s with heap := h, toks := tk })
    (done : ∀ tvs n1 oad fvs n2 ofd tups (u : Option Value) h tk, SymOk prog w (b0 + items.length) tvs oad fvs ofd tups → SymAddr x dx tl ad fl fd → (∀ q ∈ tups, q.2.cls = .type "tuple") → Fr h₀ env.locals h (fun z => if z = y then u else m₀ z) →
      News h₀ env.locals h (symL x dx tl ad fl fd o tvs n1 oad fvs n2 ofd (tups ++ R)) → Q .next { s with heap := h, toks := tk }) :
    wpAny (model prog w) A (pyIter (.ref t)) (fun it s₂ => LoopAtV prog w A h₀ env y body Q E it s₂) E s := by
  have perm : ∀ {h : Heap} {tvs n1 oad fvs n2 ofd} {tups own : List (Addr × Obj)}, News h₀ env.locals h (symL x dx tl ad fl fd o tvs n1 oad fvs n2 ofd (tups ++ R) ++ own) → News h₀ env.locals h (symL x dx tl ad fl fd o tvs n1 oad fvs n2 ofd (tups ++ (R ++ own))) := fun N p hp => N p (by
    simpa only [symL, List.cons_append, List.append_assoc] using hp)
  refine iter_tup (fun i m nx => (∀ z, z ≠ y → m z = m₀ z) ∧ ∃ tvs n1 oad fvs n2 ofd tups, SymOk prog w (b0 + i) tvs oad fvs ofd tups ∧ (∀ q ∈ tups, q.2.cls = .type "tuple") ∧ nx = symL x dx tl ad fl fd o tvs n1 oad fvs n2 ofd (tups ++ R))
    hh F N ht ⟨fun _ _ => rfl, _, _, _, _, _, _, _, hS, hT, rfl⟩ ?_ ?_
  · rintro i v m₁ nx h tk own hi ⟨hm, tvs', n1', oad', fvs', n2', ofd', tups', hS', hT', rfl⟩ hoff F₁ N₁
    have hilt : i < items.length := (List.getElem?_eq_some_iff.mp hi).1
    have e : (fun z => if z = y then some v else m₁ z) = fun z => if z = y then some v else m₀ z := by
      funext z
      by_cases h1 : z = y
      · simp [h1]
      · simp only [if_neg h1]; exact hm z h1
    rw [e] at F₁
    have N₂ := perm N₁
    have offR : SymOff tl ad fl fd (R ++ own) := by
      have g : ∀ {a : Addr}, a ∈ (symL x dx tl ad fl fd o tvs n1 oad fvs n2 ofd (tups ++ R)).map (·.1) → ∀ p ∈ own, p.1 ≠ a := fun ha p hp => hoff p hp _ ha
      exact ⟨off_append hO.1 (g (by simp [symL])), off_append hO.2.1 (g (by simp [symL])), off_append hO.2.2.1 (g (by simp [symL])), off_append hO.2.2.2 (g (by simp [symL]))⟩
    refine wpAny_mono (turn i v tvs' n1' oad' fvs' n2' ofd' tups' (b0 + i) own h tk hi hS' (by omega) hA (sym_off N₂ hS' hT' offR) F₁ N₂) (fun f s₂ p => ?_) fun _ _ e => e
    obtain ⟨rfl, h', tk', tvs2, m1, oad2, fvs2, m2, ofd2, ext, rfl, F', hS2, hc, N'⟩ := p
    refine ⟨h', tk', _, _, symL x dx tl ad fl fd o tvs2 m1 oad2 fvs2 m2 ofd2 ((ext ++ tups') ++ R), rfl, F', N', fun p hp => ?_, fun p hp => ?_, fun p hp => ?_, fun z hz => by simp [hz], _, _, _, _, _, _, _, hS2, fun q hq => (List.mem_append.mp hq).elim (hc q) (hT' q), rfl⟩
    · simp only [symL, List.mem_cons, List.mem_append] at hp ⊢
      rcases hp with h | h | h | h | h | h | (h | h) | h <;> simp [h]
    · simp only [symL, List.mem_cons, List.mem_append]
      simp [hp]
    · simp only [symL, List.mem_cons, List.mem_append] at hp
      simp only [symL, List.map_cons, List.map_append, List.mem_cons, List.mem_append, List.mem_map]
      rcases hp with h | h | h | h | h | h | (h | h) | h
      · left; simp [h]
      · left; simp [h]
      · left; simp [h]
      · left; simp [h]
      · left; simp [h]
      · left; simp [h]
      · right; rw [hc p h]; exact type_ne (by decide)
      · right; rw [hT' p h]; exact type_ne (by decide)
      · left; exact .inr (.inr (.inr (.inr (.inr (.inr (.inr ⟨p, h, rfl⟩))))))
  · rintro m₁ nx h tk ⟨hm, tvs', n1', oad', fvs', n2', ofd', tups', hS', hT', rfl⟩ F₁ N₁
    refine done tvs' n1' oad' fvs' n2' ofd' tups' (m₁ y) h tk hS' hA hT' ?_ N₁
    have e : (fun z => if z = y then m₁ y else m₀ z) = m₁ := by
      funext z
      by_cases h1 : z = y
      · simp [h1]
      · simp only [if_neg h1]; exact (hm z h1).symm
    rw [e]; exact F₁
end
end Mine
-- part MC
namespace Mine
theorem tells_atoms {prog : Program} {w : World} {need : Nat} {as : List Value} {f : Addr} {news : List (Addr × Obj)} {p : Program} {loose : List Str} {mean : ExcName → Option Value} {mg mb : Str → Option Value} {dp un : Nat} {gd : Option (List Code)} {cn : Str} {cs : Scope} {a : Addr} {ccd : Value} {cl : List (Str × Addr)} {outer : List Env} {A₀ : Around} {base h₀ : Heap} {L : Addr} {m : Str → Option Value} {s : Shared} {Q E : Value → Shared → Prop}
    (C : Tells prog w f need as news (AtomsOut news)) (B : Below A₀ base outer h₀) (F : Fr h₀ L s.heap m) (X : (hd.heap_39 w.params).In h₀) (N : News h₀ L s.heap news) (T : Top p loose mean mg mb h₀) (hk : cs.kind = .function)
    (hd : dp + need < recursionLimit) (hu : un + 8 * need < cLine) (hret : ∀ t items n h' tk', AllStrs items → items.length ≤ 40 → (∀ p ∈ news, @LT.lt Nat _ p.1 t) → Fr h₀ L h' m → News h₀ L h' ((t, ({ cls := .type "tuple", data := .seq items.toArray n } : Obj)) :: news) → Q (.ref t) { s with heap := h', toks := tk' }) :
    wpAny (model prog w) (ktrTop dp un gd cn cs L a ccd cl outer) (call (.ref f) as) Q E s :=
  tells_use C B F X N T hk hd hu fun v news' h' tk' P F' N' => by
    obtain ⟨t, items, n, rfl, h1, h2, h3, rfl⟩ := P
    exact hret t items n h' tk' h1 h2 h3 F' N'
def isTup (p : Addr × Obj) : Bool := p.2.cls == .type "tuple"
theorem rows_filter {ext rows : List (Addr × Obj)} (h : ∀ p ∈ ext, isTup p = true → p ∈ rows) : ∀ items, RowsIn ext items → RowsIn rows items
  | [], _ => trivial
  | _ :: r, ⟨⟨q, a, t, k, u, n, e, hm⟩, hr⟩ => ⟨⟨q, a, t, k, u, n, e, h _ hm (beq_self_eq_true _)⟩, rows_filter h r hr⟩
theorem RowsIn.at {rows : List (Addr × Obj)} : ∀ {items : List Value} {i : Nat} {v : Value}, RowsIn rows items → items[i]? = some v → ∃ q a t k u n, v = .ref q ∧ (q, ({ cls := .type "tuple", data := .seq [.str a t, .int k u].toArray n } : Obj)) ∈ rows
  | v :: r, 0, w, h, e => by cases e; exact h.1
  | v :: r, i + 1, w, h, e => RowsIn.at h.2 (by simpa using e)
theorem AllStrs.at : ∀ {items : List Value} {i : Nat} {v : Value}, AllStrs items → items[i]? = some v → ∃ a t, v = .str a t
  | v :: r, 0, w, h, e => by cases e; exact h.1
  | v :: r, i + 1, w, h, e => AllStrs.at h.2 (by simpa using e)
theorem tells_functors {prog : Program} {w : World} {need : Nat} {as : List Value} {f : Addr} {news : List (Addr × Obj)} {p : Program} {loose : List Str} {mean : ExcName → Option Value} {mg mb : Str → Option Value} {dp un : Nat} {gd : Option (List Code)} {cn : Str} {cs : Scope} {a : Addr} {ccd : Value} {cl : List (Str × Addr)} {outer : List Env} {A₀ : Around} {base h₀ : Heap} {L : Addr} {m : Str → Option Value} {s : Shared} {Q E : Value → Shared → Prop}
    (C : Tells prog w f need as news (FunctorsOut news)) (B : Below A₀ base outer h₀) (F : Fr h₀ L s.heap m) (X : (hd.heap_39 w.params).In h₀) (N : News h₀ L s.heap news) (T : Top p loose mean mg mb h₀) (hk : cs.kind = .function)
    (hd : dp + need < recursionLimit) (hu : un + 8 * need < cLine) (hret : ∀ t items n rows h' tk', RowsIn rows items → items.length ≤ 40 → (∀ p ∈ rows, p.2.cls = .type "tuple") → (∀ p ∈ rows ++ news, @LT.lt Nat _ p.1 t) → Fr h₀ L h' m → News h₀ L h' ((t, tupO items n) :: (rows ++ news)) → Q (.ref t) { s with heap := h', toks := tk' }) :
    wpAny (model prog w) (ktrTop dp un gd cn cs L a ccd cl outer) (call (.ref f) as) Q E s :=
  tells_use C B F X N T hk hd hu fun v news' h' tk' P F' N' => by
    obtain ⟨t, items, n, ext, rfl, h1, h2, h3, h4, h5, rfl⟩ := P
    refine hret t items n (ext.filter isTup) h' tk' (rows_filter (fun p hp ht => List.mem_filter.mpr ⟨hp, ht⟩) _ h1) h2 (fun p hp => eq_of_beq (List.mem_filter.mp hp).2) (fun p hp => ?_) F' fun p hp => ?_
    · exact h5 p ((List.mem_append.mp hp).elim (fun h => (List.mem_filter.mp h).1) (h3 p))
    · rcases List.mem_cons.mp hp with rfl | hp
      · exact N' _ (.head _)
      · exact N' p (.tail _ ((List.mem_append.mp hp).elim (fun h => (List.mem_filter.mp h).1) (h3 p)))
theorem sym_perm0 {h₀ h : Heap} {L : Addr} {t a b c d e f : Addr × Obj} {r : List (Addr × Obj)} (N : News h₀ L h (t :: e :: f :: a :: b :: c :: d :: r)) : News h₀ L h (t :: a :: b :: c :: d :: e :: f :: r) := fun p hp => N p (by
  simp only [List.mem_cons] at hp ⊢
  rcases hp with h | h | h | h | h | h | h | h <;> simp [h])
theorem sym_perm1 {h₀ h : Heap} {L : Addr} {t a b c d e f : Addr × Obj} {rows tups R : List (Addr × Obj)} (N : News h₀ L h (t :: (rows ++ (a :: b :: c :: d :: e :: f :: (tups ++ R))))) : News h₀ L h (t :: a :: b :: c :: d :: e :: f :: (tups ++ (rows ++ R))) := fun p hp => N p (by
  simp only [List.mem_cons, List.mem_append] at hp ⊢
  rcases hp with h | h | h | h | h | h | h | h | h | h <;> simp [h])
theorem rows_mem {x dx tl ad fl fd : Addr} {o : Obj} {tvs fvs : List Value} {n1 n2 : Nat} {oad ofd : Obj} {tups rows R own : List (Addr × Obj)} {q : Addr × Obj} (h : q ∈ rows) : q ∈ symL x dx tl ad fl fd o tvs n1 oad fvs n2 ofd (tups ++ ((rows ++ R) ++ own)) := by
  simp only [symL, List.mem_cons, List.mem_append]
  simp [h]
theorem tells_func {prog : Program} {w : World} {x dx tl ad fl fd : Addr} {o : Obj} {b : Nat} {tups R : List (Addr × Obj)} {need : Nat} {as : List Value} {f : Addr} {news : List (Addr × Obj)} {p : Program} {loose : List Str} {mean : ExcName → Option Value} {mg mb : Str → Option Value} {dp un : Nat} {gd : Option (List Code)} {cn : Str} {cs : Scope} {a : Addr} {ccd : Value} {cl : List (Str × Addr)} {outer : List Env} {A₀ : Around} {base h₀ : Heap} {L : Addr} {m : Str → Option Value} {s : Shared} {Q E : Value → Shared → Prop}
    (C : Tells prog w f need as news (FuncOut prog w x dx tl ad fl fd o b tups R)) (B : Below A₀ base outer h₀) (F : Fr h₀ L s.heap m) (X : (hd.heap_39 w.params).In h₀) (N : News h₀ L s.heap news) (T : Top p loose mean mg mb h₀) (hk : cs.kind = .function)
    (hd : dp + need < recursionLimit) (hu : un + 8 * need < cLine) (hret : ∀ k t' tvs n1 oad fvs n2 ofd ext h' tk', SymOk prog w b tvs oad fvs ofd (ext ++ tups) → (∀ q ∈ ext, q.2.cls = .type "tuple") → Fr h₀ L h' m → News h₀ L h' (symL x dx tl ad fl fd o tvs n1 oad fvs n2 ofd (ext ++ R)) → Q (.int k t') { s with heap := h', toks := tk' }) :
    wpAny (model prog w) (ktrTop dp un gd cn cs L a ccd cl outer) (call (.ref f) as) Q E s :=
  tells_use C B F X N T hk hd hu fun v news' h' tk' P F' N' => by
    obtain ⟨k, t, tvs, n1, oad, fvs, n2, ofd, ext, rfl, h1, h2, rfl⟩ := P
    exact hret k t tvs n1 oad fvs n2 ofd ext h' tk' h1 (fun q hq => (h2 q hq).1) F' N'
section
local macro_rules | `(tactic| walk_at "call ref") => `(tactic| (k_here; refine wpAny_call ?_; k_dflt (refine' code_def ?k1 ?k2 ?k3 ?k4 ?k5 ?kA ?kF ?kK ?k6 ?k7 ?k8 ?k9 ?kB ?_ ?c2 ?c3 ?c4 ?c5; (case kA => exact rfl); (case kF => exact rfl); (case kK => first | exact rfl | assumption); (case k1 => k_asm); (case k2 => k_asm); (case k3 => k_asm); (case k4 => k_asm); (case k5 => k_asm); (case k6 => k_is); (case k7 => k_is); (case k8 => ktr_room); (case k9 => exact BindsTo.of_eq rfl); (case c5 => decide); (case kB => exact locs rfl); (case c2 => exact rfl); (case c3 => exact rfl); (case c4 => exact rfl); k_whole; intro g' L' h' FG' F' N' B' X' T'; (try dsimp only); (try k_fold)); walk_say "ENTER"))
local macro_rules | `(tactic| walk_at "call ref") => `(tactic| (k_here; k_dflt ((refine' call_cls ?k1 ?k2 ?k3 ?k4 ?k5 ?k6 ?_; (case k1 => k_asm); (case k2 => k_asm); (case k3 => k_asm); (case k4 => k_is); (case k5 => k_is); (case k6 => k_is); k_whole; intro x' d' h' F' N' l1 l2; (try k_lt l1); (try k_lt2 l2); (try k_sweep); refine' code_def ?k1 ?k2 ?k3 ?k4 ?k5 ?kA ?kF ?kK ?k6 ?k7 ?k8 ?k9 ?kB ?_ ?c2 ?c3 ?c4 ?c5; (case kA => exact rfl); (case kF => exact rfl); (case kK => first | exact rfl | assumption); (case k1 => k_asm); (case k2 => k_asm); (case k3 => k_asm); (case k4 => k_asm); (case k5 => k_asm); (case k6 => k_is); (case k7 => k_is); (case k8 => ktr_room); (case k9 => exact BindsTo.of_eq rfl); (case c5 => decide); (case kB => exact locs rfl); (case c2 => exact rfl); (case c3 => exact rfl); (case c4 => exact rfl); k_whole; intro g' L' h' FG' F' N' B' X' T'; (try dsimp only); (try k_fold))); walk_say "MADE"))
local macro_rules | `(tactic| walk_at "call ref") => `(tactic| (k_here; k_dflt (refine' tells_atom (atom_call _ _ _ _ _ _ _ _ _ _ _ _ _ _ _ _ _ _ _ _ _ _ _ _ _ ?q1 ?q2 ?q3 ?q4 ?q5 ?q6 ?q7 ?q8 ?q9 ?qa ?qb ?qc ?qd) ?k1 ?k2 ?k3 ?k4 ?k5 ?kK ?kd ?ku ?_; (case k1 => k_asm); (case k2 => k_asm); (case k3 => k_asm); (case k4 => first | k_asm | exact cb_drop (by k_asm) drop1 | exact cb_drop (by k_asm) drop2); (case k5 => k_asm); (case kK => first | exact rfl | assumption); (case kd => first | omega | ktr_room | ((try simp only [depth_under_make, depth_deeper]); (try dsimp only [ktrTop]); omega)); (case ku => first | omega | ktr_units | ((try simp only [units_under_make, units_deeper]); (try dsimp only [ktrTop]); omega)); (case q1 => assumption); (case q2 => assumption); (case q3 => assumption); (case q4 => assumption); (case q5 => assumption); (case q6 => exact SymAddr.la (by assumption)); (case q7 => exact SymAddr.a1 (by assumption)); (case q8 => exact SymAddr.a2 (by assumption)); (case q9 => exact SymAddr.a3 (by assumption)); (case qa => exact SymAddr.a4 (by assumption)); (case qb => exact SymAddr.a5 (by assumption)); (case qc => assumption); (case qd => assumption)); intro k9 t9 tvs9 n9 oad9 kvs9 c9 h9 tk9 hp1 hp2 hp3 hp4 F9 N9; (try dsimp only); (try k_fold); walk_say "CONTRACT atom_call"))
local macro_rules | `(tactic| walk_at "call ref") => `(tactic| (k_here; k_dflt (refine' tells_atoms (atoms_call _ _ _) ?k1 ?k2 ?k3 ?k4 ?k5 ?kK ?kd ?ku ?_; (case k1 => k_asm); (case k2 => k_asm); (case k3 => k_asm); (case k4 => first | k_asm | exact cb_drop (by k_asm) drop1 | exact cb_drop (by k_asm) drop2); (case k5 => k_asm); (case kK => first | exact rfl | assumption); (case kd => first | omega | ktr_room | ((try simp only [depth_under_make, depth_deeper]); (try dsimp only [ktrTop]); omega)); (case ku => first | omega | ktr_units | ((try simp only [units_under_make, units_deeper]); (try dsimp only [ktrTop]); omega))); intro t9 items9 n9 h9 tk9 hi1 hi2 hi3 F9 N9; (try dsimp only); (try k_fold); walk_say "CONTRACT atoms_call"))
local macro_rules | `(tactic| walk_at "call ref") => `(tactic| (k_here; k_dflt (refine' tells_functors (functors_call _ _ _) ?k1 ?k2 ?k3 ?k4 ?k5 ?kK ?kd ?ku ?_; (case k1 => k_asm); (case k2 => k_asm); (case k3 => k_asm); (case k4 => first | k_asm | exact cb_drop (by k_asm) drop1 | exact cb_drop (by k_asm) drop2); (case k5 => k_asm); (case kK => first | exact rfl | assumption); (case kd => first | omega | ktr_room | ((try simp only [depth_under_make, depth_deeper]); (try dsimp only [ktrTop]); omega)); (case ku => first | omega | ktr_units | ((try simp only [units_under_make, units_deeper]); (try dsimp only [ktrTop]); omega))); intro t9 items9 n9 rows9 h9 tk9 hi1 hi2 hi3 hi4 F9 N9; (try dsimp only); (try k_fold); walk_say "CONTRACT functors_call"))
local macro_rules | `(tactic| walk_at "call ref") => `(tactic| (k_here; k_dflt (refine' tells_func (func_call _ _ _ _ _ _ _ _ _ _ _ _ _ _ _ _ _ _ _ _ _ _ _ _ _ _ _ _ _ ?q1 ?q2 ?q3 ?q4 ?q5) ?k1 ?k2 ?k3 ?k4 ?k5 ?kK ?kd ?ku ?_; (case k1 => k_asm); (case k2 => k_asm); (case k3 => k_asm); (case k4 => first | k_asm | exact cb_drop (by k_asm) drop1 | exact cb_drop (by k_asm) drop2); (case k5 => k_asm); (case kK => first | exact rfl | assumption); (case kd => first | omega | ktr_room | ((try simp only [depth_under_make, depth_deeper]); (try dsimp only [ktrTop]); omega)); (case ku => first | omega | ktr_units | ((try simp only [units_under_make, units_deeper]); (try dsimp only [ktrTop]); omega)); (case q1 => assumption); (case q2 => assumption); (case q3 => assumption); (case q4 => assumption); (case q5 => exact fun _ h => List.mem_append.mpr (.inl h))); intro k9 t9 tvs9 n9 oad9 fvs9 m9 ofd9 ext9 h9 tk9 hp8 hp9 F9 N9; (try dsimp only); (try k_fold); walk_say "CONTRACT func_call"))
local macro_rules | `(tactic| walk_at "subscriptTail") => `(tactic| (k_here; (with_reducible show wpAny _ _ (subscriptTail _ _ (Value.ref _) (Value.int _ _)) _ _ _); k_dflt (refine' item_tupleT ?t ?a ?b ?c ?d ?_; (case t => assumption); (case a => decide); (case b => decide); (case c => rfl); (case d => rfl); k_whole); walk_say "ROW"))
theorem sym_call (prog : Program) (w : World) (news : List (Addr × Obj)) : Tells prog w 154 6 [] news (fun v news' => (∃ x, v = .ref x) ∧ news' = news) := by
  refine Tells.mk ?_
  intro p loose mean mg mb dp un gd cn cs a' ccd cl outer A₀ base h₀ L m s Q E B F X N T hk hd hu hret
  k_steps
  have N1 := sym_perm0 (by assumption)
  with_unfolding_all refine init_loop (y := Str.ofString "text") (b0 := 0) (tups := []) (tvs := []) (fvs := []) (R := news) ?_ rfl (by assumption) N1 ?_ ?_ ?_ ?_ ?_ ?_ ?_
  · omega
  · intro p hp
    have g := (by assumption : ∀ p ∈ (_, _) :: (_, _) :: (_, _) :: (_, _) :: (_, _) :: (_, _) :: news, p.1 < _) p (by
      simp only [symL, List.nil_append, List.mem_cons] at hp ⊢
      rcases hp with h | h | h | h | h | h | h <;> simp [h])
    exact Nat.ne_of_lt g
  · exact ⟨⟨_, [], by assumption, by assumption, Nat.le_refl _⟩, Nat.le_refl _, Nat.le_refl _, FunTab.empty (by assumption)⟩
  · intro q hq; cases hq
  · have g := (by assumption : ∀ p ∈ news, p.1 < _)
    exact ⟨fun p hp => neN (by have := ltN (g p hp); omega), fun p hp => neN (by have := ltN (g p hp); omega), fun p hp => neN (by have := ltN (g p hp); omega), fun p hp => neN (by have := ltN (g p hp); omega)⟩
  · exact ⟨by assumption, by assumption, by omega, by omega, by omega, by omega, by omega, by omega, by omega, by omega, by omega, by omega, by omega, by omega, by omega, by omega⟩
  · intro i v tvs n1 oad fvs n2 ofd tups b own h tk hi hS hb hA hO F1 N1
    obtain ⟨a, t, rfl⟩ := AllStrs.at (by assumption) hi
    obtain ⟨⟨kvs, c, g1, g2, g3⟩, g4, g5, g6⟩ := hS
    obtain ⟨o1, o2, o3, o4⟩ := hO
    have hb1 : b < 1000 := by omega
    have r1 := off_cons (q := (_, ofd)) (Ne.symm hA.c1) (off_cons (q := (_, listOf fvs.toArray n2)) (Ne.symm hA.c2) o1)
    have r2 := off_cons (q := (_, ofd)) (Ne.symm hA.c3) (off_cons (q := (_, listOf fvs.toArray n2)) (Ne.symm hA.c4) o2)
    k_steps
    refine ⟨rfl, _, _, _, _, _, _, _, _, [], rfl, by assumption, ?_, (fun q hq => nomatch hq), by assumption⟩
    exact ⟨⟨_, _, by assumption, by assumption, by assumption⟩, by assumption, by omega, g6.le (Nat.le_succ _)⟩
  · intro tvs n1 oad fvs n2 ofd tups u h tk hS hA hT F1 N1
    dsimp only
    k_steps
    have N3 := sym_perm1 (by assumption)
    have N4 := fun p hp => N3 p (List.Mem.tail _ hp)
    with_unfolding_all refine init_loop (y := Str.ofString "row") (tups := tups) ?_ rfl (by assumption) N3 ?_ hS hT ?_ hA ?_ ?_
    · omega
    · intro p hp
      refine Nat.ne_of_lt ((by assumption : ∀ p ∈ _ ++ _, p.1 < _) p ?_)
      simp only [symL, List.mem_cons, List.mem_append] at hp ⊢
      rcases hp with h | h | h | h | h | h | h | h | h <;> simp [h]
    · have g := (by assumption : ∀ p ∈ news, p.1 < _)
      refine sym_off2 N4 hS (fun p hp => List.mem_append.mpr (.inr (List.mem_append.mpr (.inl hp)))) (by assumption) ?_
      exact ⟨fun p hp => neN (by have := ltN (g p hp); omega), fun p hp => neN (by have := ltN (g p hp); omega), fun p hp => neN (by have := ltN (g p hp); omega), fun p hp => neN (by have := ltN (g p hp); omega)⟩
    · intro i v tvs n1 oad fvs n2 ofd tups b own h tk hi hS hb hA hO F1 N1
      obtain ⟨q, a, t, k, u, n, rfl, hq⟩ := RowsIn.at (by assumption) hi
      have hb1 : b < 999 := by omega
      have hI := News.isTup N1 (rows_mem hq)
      k_steps
      refine ⟨rfl, _, _, _, _, _, _, _, _, _, rfl, by assumption, ?_, ?_, by assumption⟩
      · assumption
      · assumption
    · intro tvs n1 oad fvs n2 ofd tups u h tk hS hA hT F1 N1
      dsimp only
      k_steps
      refine hret _ _ _ _ ⟨⟨_, rfl⟩, rfl⟩ (by assumption) (cb_drop (by assumption) ?_)
      intro p hp
      simp only [symL, List.mem_cons, List.mem_append]
      simp [hp]
end
end Mine
-- part MF
namespace Mine
def NetOut (ms : List Int) (news : List (Addr × Obj)) (v : Value) (news' : List (Addr × Obj)) : Prop :=
  ∃ D vs c, v = .ref D ∧ IntsAre vs ms ∧ (∀ p ∈ news, @LT.lt Nat _ p.1 D) ∧ news' = (D, listOf vs.toArray c) :: news
theorem off_app {D : Addr} {l r : List (Addr × Obj)} (h1 : ∀ p ∈ l, p.1 ≠ D) (h2 : ∀ p ∈ r, p.1 ≠ D) : ∀ p ∈ l ++ r, p.1 ≠ D := fun p hp => (List.mem_append.mp hp).elim (h1 p) (h2 p)
theorem off_lt {D : Addr} {l : List (Addr × Obj)} (h : AllLt D l) : ∀ p ∈ l, p.1 ≠ D := fun p hp => Nat.ne_of_lt (ktn_ltOf h p hp)
section
variable {prog : Program} {w : World} {A : Around} {E : Value → Shared → Prop} {s : Shared} {env : Env} {h₀ : Heap} {x : Str} {body : List Stmt} {Q : Flow → Shared → Prop}
def NetPost (h₀ : Heap) (L : Addr) (s₁ : Shared) (x : Str) (stored : List Str) (m₀ : Str → Option Value) (D : Addr) (R : List (Addr × Obj)) (P : List Int → Prop) (f : Flow) (s₂ : Shared) : Prop :=
  f = .next ∧ ∃ h' tk m' vs' ns' c', s₂ = { s₁ with heap := h', toks := tk } ∧ Fr h₀ L h' m' ∧ (∀ z, z ≠ x → stored.contains z = false → m' z = m₀ z) ∧ News h₀ L h' ((D, listOf vs'.toArray c') :: R) ∧ IntsAre vs' ns' ∧ P ns'
abbrev netL (D : Addr) (rest : List (Addr × Obj)) (c : List Value × List Int × Nat) : List (Addr × Obj) := (D, listOf c.1.toArray c.2.2) :: rest
theorem net_back {L : Addr} {s₁ s₂ : Shared} {stored : List Str} {m₀ : Str → Option Value} {D : Addr} {rest own : List (Addr × Obj)} {P : List Int → List Value × List Int × Nat → Prop} {P' : List Int → Prop} {pre : List Int} {f : Flow} {c₀ : List Value × List Int × Nat}
    (h : NetPost h₀ L s₁ x stored m₀ D (rest ++ own) P' f s₂) (hP : ∀ vs ns c, P' ns → P pre (vs, ns, c)) :
    InvPostN h₀ L (KstS (netL D rest) (fun _ => []) (fun c => IntsAre c.1 c.2.1) x stored m₀ P pre) own ((netL D rest c₀).map (·.1)) s₁ Q f s₂ := by
  obtain ⟨rfl, h', tk, m', vs', ns', c', rfl, F', hm, N', hi, hp⟩ := h
  refine InvEndN.intro F' N' (nx := netL D rest (vs', ns', c')) ⟨(vs', ns', c'), rfl, hi, (fun _ hp => nomatch hp), fun z hz _ hs => hm z hz hs, hP _ _ _ hp⟩ rfl (fun p hp => ?_) fun p hp => ?_
  · rcases List.mem_cons.mp hp with rfl | hp
    · exact .head _
    · exact .tail _ (List.mem_append_left _ hp)
  · exact .tail _ (List.mem_append_right _ hp)
theorem net_down {r D : Addr} {c0 : Nat} {vs : List Value} {ns : List Int} {rest : List (Addr × Obj)} {m₀ : Str → Option Value} {a₀ : Int} {t₀ u₀ v₀ : Tok} (stored : List Str) (k : Nat) (P : Nat → List Int → Prop)
    (hh : A.handled = none) (hr : IsRange s.heap r a₀ 0 (-1) t₀ u₀ v₀) (ha : a₀.toNat = k) (ha' : -1 ≤ a₀) (hk : k ≤ 100) (F : Fr h₀ env.locals s.heap m₀) (N : News h₀ env.locals s.heap ((D, listOf vs.toArray c0) :: rest)) (hi : IntsAre vs ns) (hp : P 0 ns)
    (turn : ∀ (i : Nat) vs1 ns1 c1 t (u : Str → Option Value) h tk own, i < k → IntsAre vs1 ns1 → P i ns1 → (∀ p ∈ own, p.1 ≠ D) →
      Fr h₀ env.locals h (fun y => if y = x then some (.int ((k : Int) - (i : Int)) t) else if stored.contains y then u y else m₀ y) → News h₀ env.locals h ((D, listOf vs1.toArray c1) :: (rest ++ own)) →
      wpAny (model prog w) A (execs body env) (NetPost h₀ env.locals { s with heap := h, toks := tk } x stored m₀ D (rest ++ own) (P (i + 1))) E { s with heap := h, toks := tk })
    (done : ∀ vs1 ns1 c1 (u : Str → Option Value) h tk, IntsAre vs1 ns1 → P k ns1 → Fr h₀ env.locals h (fun y => if y = x then u y else if stored.contains y then u y else m₀ y) → News h₀ env.locals h ((D, listOf vs1.toArray c1) :: rest) → Q .next { s with heap := h, toks := tk }) :
    wpAny (model prog w) A (pyIter (.ref r)) (fun it s₂ => LoopAtV prog w A h₀ env x body Q E it s₂) E s := by
  have e1 : Builtin.Range.rangeSize a₀ 0 (-1) = (k : Int) := by rw [rangeSize_downNat]; omega
  have e2 : Builtin.Range.small a₀ 0 (-1) = true := small_down (by omega) (by omega) (by omega) (by omega)
  refine kst_rangeD (netL D rest) (fun _ => []) (fun c => IntsAre c.1 c.2.1) stored (fun pre c => P pre.length c.2.1) (vs, ns, c0) hh hr e2 e1 F N hi (fun _ h => nomatch h) hp ?_ ?_
  · rintro ⟨vs1, ns1, c1⟩ pre j t u h tk own hj hlt hoff hf hp' F₁ N₁
    have hj' : j = (k : Int) - (pre.length : Int) := by omega
    rw [hj'] at F₁
    refine wpAny_mono (turn pre.length vs1 ns1 c1 t u h tk own hlt hf hp' (fun p hp => hoff p hp D (by simp [netL])) F₁ N₁) (fun f s₂ p => ?_) fun _ _ e => e
    exact net_back p fun _ _ _ q => by simpa using q
  · rintro ⟨vs1, ns1, c1⟩ u h tk hf hp' F₁ N₁
    rw [downKs_length] at hp'
    exact done vs1 ns1 c1 u h tk hf hp' F₁ N₁
theorem net_up {r D : Addr} {c0 : Nat} {vs : List Value} {ns : List Int} {rest : List (Addr × Obj)} {m₀ : Str → Option Value} {b₀ : Int} {t₀ u₀ v₀ : Tok} (stored : List Str) (k : Nat) (P : Nat → List Int → Prop)
    (hh : A.handled = none) (hr : IsRange s.heap r 0 b₀ 1 t₀ u₀ v₀) (hb : b₀ = k) (hk : k ≤ 100) (F : Fr h₀ env.locals s.heap m₀) (N : News h₀ env.locals s.heap ((D, listOf vs.toArray c0) :: rest)) (hi : IntsAre vs ns) (hp : P 0 ns)
    (turn : ∀ (i : Nat) vs1 ns1 c1 t (u : Str → Option Value) h tk own, i < k → IntsAre vs1 ns1 → P i ns1 → (∀ p ∈ own, p.1 ≠ D) →
      Fr h₀ env.locals h (fun y => if y = x then some (.int (i : Int) t) else if stored.contains y then u y else m₀ y) → News h₀ env.locals h ((D, listOf vs1.toArray c1) :: (rest ++ own)) →
      wpAny (model prog w) A (execs body env) (NetPost h₀ env.locals { s with heap := h, toks := tk } x stored m₀ D (rest ++ own) (P (i + 1))) E { s with heap := h, toks := tk })
    (done : ∀ vs1 ns1 c1 (u : Str → Option Value) h tk, IntsAre vs1 ns1 → P k ns1 → Fr h₀ env.locals h (fun y => if y = x then u y else if stored.contains y then u y else m₀ y) → News h₀ env.locals h ((D, listOf vs1.toArray c1) :: rest) → Q .next { s with heap := h, toks := tk }) :
    wpAny (model prog w) A (pyIter (.ref r)) (fun it s₂ => LoopAtV prog w A h₀ env x body Q E it s₂) E s := by
  have e1 : Builtin.Range.rangeSize 0 b₀ 1 = (k : Int) := by
    unfold Builtin.Range.rangeSize
    simp only [show ((1 : Int) > 0) by decide, if_true, Int.ediv_one]
    split <;> omega
  have e2 : Builtin.Range.small 0 b₀ 1 = true := by
    unfold Builtin.Range.small
    rw [e1]
    simp only [Builtin.Range.rangeFitsLong, Bool.and_eq_true, Bool.or_eq_true, decide_eq_true_eq, beq_iff_eq, show ((1 : Int) > 0) by decide, if_true]
    omega
  refine kst_range (netL D rest) (fun _ => []) (fun c => IntsAre c.1 c.2.1) stored (fun pre c => P pre.length c.2.1) (vs, ns, c0) hh hr e2 e1 F N hi (fun _ h => nomatch h) hp ?_ ?_
  · rintro ⟨vs1, ns1, c1⟩ pre j t u h tk own hj hlt hoff hf hp' F₁ N₁
    have hj' : j = (pre.length : Int) := by omega
    rw [hj'] at F₁
    refine wpAny_mono (turn pre.length vs1 ns1 c1 t u h tk own hlt hf hp' (fun p hp => hoff p hp D (by simp [netL])) F₁ N₁) (fun f s₂ p => ?_) fun _ _ e => e
    exact net_back p fun _ _ _ q => by simpa using q
  · rintro ⟨vs1, ns1, c1⟩ u h tk hf hp' F₁ N₁
    rw [rangeKs_length] at hp'
    exact done vs1 ns1 c1 u h tk hf hp' F₁ N₁
end
end Mine
-- part MN
namespace Mine
def netAt (f g : Int → Int → Int) (xs : List Int) (k : Nat) : List Int := (xs.set k (f (xs.getD k 0) (xs.getD (k + 1) 0))).set (k + 1) (g (xs.getD k 0) (xs.getD (k + 1) 0))
def netRow (f g : Int → Int → Int) (last : Nat) (xs : List Int) : List Int := (List.range last).foldl (netAt f g) xs
def netTo (f g : Int → Int → Int) (n i : Nat) (xs : List Int) : List Int := (List.range i).foldl (fun ys j => netRow f g (n - 1 - j) ys) xs
def net (f g : Int → Int → Int) (xs : List Int) : List Int := netTo f g xs.length (xs.length - 1) xs
theorem netRow_zero (f g : Int → Int → Int) (xs : List Int) : netRow f g 0 xs = xs := rfl
theorem netRow_succ (f g : Int → Int → Int) (k : Nat) (xs : List Int) : netRow f g (k + 1) xs = netAt f g (netRow f g k xs) k := by
  unfold netRow; rw [List.range_succ, List.foldl_append]; rfl
theorem netTo_zero (f g : Int → Int → Int) (n : Nat) (xs : List Int) : netTo f g n 0 xs = xs := rfl
theorem netTo_succ (f g : Int → Int → Int) (n i : Nat) (xs : List Int) : netTo f g n (i + 1) xs = netRow f g (n - 1 - i) (netTo f g n i xs) := by
  unfold netTo; rw [List.range_succ, List.foldl_append]; rfl
theorem netAt_length (f g : Int → Int → Int) (xs : List Int) (k : Nat) : (netAt f g xs k).length = xs.length := by simp [netAt]
theorem netRow_length (f g : Int → Int → Int) (k : Nat) (xs : List Int) : (netRow f g k xs).length = xs.length := by
  induction k with
  | zero => rfl
  | succ k ih => rw [netRow_succ, netAt_length, ih]
theorem netTo_length (f g : Int → Int → Int) (n i : Nat) (xs : List Int) : (netTo f g n i xs).length = xs.length := by
  induction i with
  | zero => rfl
  | succ i ih => rw [netTo_succ, netRow_length, ih]
theorem row_step {f g : Int → Int → Int} {ns1 ns2 : List Int} {j : Nat} (h : ns2 = netRow f g j ns1) : (ns2.set ((j : Int)).toNat (f (ns2.getD ((j : Int)).toNat 0) (ns2.getD ((j : Int) + 1).toNat 0))).set ((j : Int) + 1).toNat (g (ns2.getD ((j : Int)).toNat 0) (ns2.getD ((j : Int) + 1).toNat 0)) = netRow f g (j + 1) ns1 := by
  have e : ((j : Int) + 1).toNat = j + 1 := by omega
  rw [netRow_succ, ← h, e, Int.toNat_natCast]
  rfl
end Mine
-- part MO
namespace Mine
def gcdI (a b : Int) : Int := (Int.gcd a b : Int)
def lcmI (a b : Int) : Int := (a * b).fdiv (Int.gcd a b : Int)
def prodI : List Int → Int
  | [] => 1
  | x :: r => x * prodI r
def Good (C : Int) (xs : List Int) : Prop := (∀ x ∈ xs, 1 ≤ x) ∧ prodI xs = C
theorem gcd_pos {a b : Int} (ha : 1 ≤ a) : 1 ≤ gcdI a b := by
  have h : 0 < Int.gcd a b := Int.gcd_pos_of_ne_zero_left b (by omega)
  unfold gcdI; omega
theorem gcd_lcm {a b : Int} (ha : 1 ≤ a) : gcdI a b * lcmI a b = a * b := by
  unfold lcmI
  have h := gcd_pos (b := b) ha
  unfold gcdI at *
  rw [Int.fdiv_eq_ediv_of_nonneg _ (by omega)]
  exact Int.mul_ediv_cancel' (Int.dvd_trans (Int.gcd_dvd_left a b) (Int.dvd_mul_right a b))
theorem lcm_pos {a b : Int} (ha : 1 ≤ a) (hb : 1 ≤ b) : 1 ≤ lcmI a b := by
  have h := gcd_lcm (b := b) ha
  have h1 := gcd_pos (b := b) ha
  have h2 : 0 < a * b := Int.mul_pos (by omega) (by omega)
  rw [← h] at h2
  have h3 : 0 < lcmI a b := by
    rcases Int.lt_or_le 0 (lcmI a b) with h3 | h3
    · exact h3
    · exact absurd h2 (Int.not_lt.mpr (Int.mul_nonpos_of_nonneg_of_nonpos (by omega) h3))
  omega
theorem prod_pos : ∀ {xs : List Int}, (∀ x ∈ xs, 1 ≤ x) → 1 ≤ prodI xs
  | [], _ => by decide
  | x :: r, h => by
    have h1 := h x (.head _)
    have h2 := prod_pos fun y hy => h y (.tail _ hy)
    have h3 : 0 < x * prodI r := Int.mul_pos (by omega) (by omega)
    show 1 ≤ x * prodI r
    omega
theorem le_prod : ∀ {xs : List Int}, (∀ x ∈ xs, 1 ≤ x) → ∀ x ∈ xs, x ≤ prodI xs
  | y :: r, h, x, hx => by
    have h1 := h y (.head _)
    have hr := fun z hz => h z (.tail _ hz)
    have h2 := prod_pos hr
    show x ≤ y * prodI r
    rcases List.mem_cons.mp hx with rfl | hx
    · exact Int.le_trans (by rw [Int.mul_one]; exact Int.le_refl x) (Int.mul_le_mul_of_nonneg_left h2 (by omega))
    · have h3 := le_prod hr x hx
      exact Int.le_trans h3 (by have := Int.mul_le_mul_of_nonneg_right h1 (show 0 ≤ prodI r by omega); omega)
theorem prod_le {M : Int} (hM : 1 ≤ M) : ∀ {xs : List Int}, (∀ x ∈ xs, 1 ≤ x ∧ x ≤ M) → prodI xs ≤ M ^ xs.length
  | [], _ => by show (1 : Int) ≤ M ^ 0; rw [Int.pow_zero]; exact Int.le_refl 1
  | x :: r, h => by
    have h1 := h x (.head _)
    have h2 := prod_le hM fun y hy => h y (.tail _ hy)
    have h3 := prod_pos fun y hy => (h y (.tail _ hy)).1
    show x * prodI r ≤ M ^ (r.length + 1)
    rw [Int.pow_succ, Int.mul_comm]
    exact Int.mul_le_mul h2 h1.2 (by omega) (by omega)
theorem pow_mono {M : Int} (hM : 1 ≤ M) {i : Nat} : ∀ {k : Nat}, i ≤ k → M ^ i ≤ M ^ k
  | 0, h => by rw [Nat.le_zero.mp h]; exact Int.le_refl _
  | k + 1, h => by
    rcases Nat.lt_or_ge i (k + 1) with h1 | h1
    · have h2 := pow_mono hM (Nat.le_of_lt_succ h1)
      have h3 : 0 ≤ M ^ k := Int.pow_nonneg (by omega)
      rw [Int.pow_succ]
      have h4 := Int.mul_le_mul_of_nonneg_left hM h3
      omega
    · rw [Nat.le_antisymm h h1]; exact Int.le_refl _
theorem netAt_cons (f g : Int → Int → Int) (x : Int) (xs : List Int) (k : Nat) : netAt f g (x :: xs) (k + 1) = x :: netAt f g xs k := rfl
theorem netAt_two (f g : Int → Int → Int) (x y : Int) (xs : List Int) : netAt f g (x :: y :: xs) 0 = f x y :: g x y :: xs := rfl
theorem good_at {C : Int} : ∀ {xs : List Int} {k : Nat}, Good C xs → k + 1 < xs.length → Good C (netAt gcdI lcmI xs k)
  | x :: y :: xs, 0, ⟨h, e⟩, _ => by
    have h1 := h x (.head _)
    have h2 := h y (.tail _ (.head _))
    rw [netAt_two]
    refine ⟨fun z hz => ?_, ?_⟩
    · rcases List.mem_cons.mp hz with rfl | hz
      · exact gcd_pos h1
      · rcases List.mem_cons.mp hz with rfl | hz
        · exact lcm_pos h1 h2
        · exact h z (.tail _ (.tail _ hz))
    · show gcdI x y * (lcmI x y * prodI xs) = C
      rw [← Int.mul_assoc, gcd_lcm h1, Int.mul_assoc]
      exact e
  | x :: xs, k + 1, ⟨h, e⟩, hk => by
    rw [netAt_cons]
    have ih := good_at (C := prodI xs) (xs := xs) (k := k) ⟨fun z hz => h z (.tail _ hz), rfl⟩ (Nat.lt_of_succ_lt_succ hk)
    refine ⟨fun z hz => ?_, ?_⟩
    · rcases List.mem_cons.mp hz with rfl | hz
      · exact h _ (.head _)
      · exact ih.1 z hz
    · show x * prodI (netAt gcdI lcmI xs k) = C
      rw [ih.2]; exact e
theorem good_row {C : Int} {xs : List Int} {k : Nat} (h : Good C xs) (hk : k + 1 ≤ xs.length ∨ k = 0) : Good C (netRow gcdI lcmI k xs) := by
  induction k with
  | zero => exact h
  | succ k ih =>
    rw [netRow_succ]
    exact good_at (ih (by omega)) (by rw [netRow_length]; omega)
theorem good_to {C : Int} {xs : List Int} {i : Nat} (h : Good C xs) : Good C (netTo gcdI lcmI xs.length i xs) := by
  induction i with
  | zero => exact h
  | succ i ih =>
    rw [netTo_succ]
    exact good_row ih (by rw [netTo_length]; omega)
/-- what one turn of the chain's network needs of its two places -/
structure Two (a b : Int) : Prop where
  a0 : 0 ≤ a
  b0 : 0 ≤ b
  m : IntMulOk a b
  p : 0 ≤ a * b
  g : 0 < (Int.gcd a b : Int)
  l : (Int.gcd a b : Int).natAbs.log2 < 9000
theorem bits_lt {a : Int} (h0 : 0 ≤ a) (h1 : a < 2 ^ 200) : Builtin.Int.intBits a ≤ 200 := by
  unfold Builtin.Int.intBits
  split
  · exact Nat.zero_le _
  · have hn : a.natAbs < 2 ^ 200 := by omega
    have : a.natAbs.log2 < 200 := by
      rcases Nat.eq_zero_or_pos a.natAbs with h0 | hp
      · rw [h0]; decide
      · exact (Nat.log2_lt (Nat.ne_of_gt hp)).mpr hn
    omega
theorem mul_ok {a b : Int} (ha : 0 ≤ a) (hb : 0 ≤ b) (ha1 : a < 2 ^ 200) (hb1 : b < 2 ^ 200) : IntMulOk a b :=
  IntMulOk.of_bits (Nat.le_trans (bits_lt ha ha1) (by decide)) (Nat.le_trans (bits_lt hb hb1) (by decide))
theorem log_lt {g : Int} (h0 : 0 < g) (h1 : g < 2 ^ 200) : g.natAbs.log2 < 9000 := by
  have hn : g.natAbs < 2 ^ 200 := by omega
  have : g.natAbs.log2 < 200 := (Nat.log2_lt (by omega)).mpr hn
  omega
theorem getD_mem {xs : List Int} {k : Nat} (h : k < xs.length) : xs.getD k 0 ∈ xs := by
  rw [List.getD_eq_getElem?_getD, List.getElem?_eq_getElem h]
  exact List.getElem_mem h
theorem gcd_le {a b : Int} (ha : 1 ≤ a) : (Int.gcd a b : Int) ≤ a := Int.le_of_dvd (by omega) (Int.gcd_dvd_left a b)
theorem two_of {C : Int} {xs : List Int} {j : Nat} (hC : C < 2 ^ 200) (h : Good C xs) (hj : j + 1 < xs.length) : Two (xs.getD ((j : Int)).toNat 0) (xs.getD ((j : Int) + 1).toNat 0) := by
  have e : ((j : Int) + 1).toNat = j + 1 := by omega
  rw [e, Int.toNat_natCast]
  have m1 := getD_mem (show j < xs.length by omega)
  have m2 := getD_mem hj
  have p1 := h.1 _ m1
  have p2 := h.1 _ m2
  have l1 := le_prod h.1 _ m1
  have l2 := le_prod h.1 _ m2
  rw [h.2] at l1 l2
  generalize xs.getD j 0 = a at *
  generalize xs.getD (j + 1) 0 = b at *
  have hg := gcd_pos (b := b) p1
  have hg2 := gcd_le (b := b) p1
  unfold gcdI at hg
  exact ⟨by omega, by omega, mul_ok (by omega) (by omega) (by omega) (by omega), Int.mul_nonneg (by omega) (by omega), by omega, log_lt (by omega) (by omega)⟩
theorem good_start {ns : List Int} (h : ∀ x ∈ ns, 1 ≤ x ∧ x ≤ 529200) (hl : ns.length ≤ 6) : Good (prodI ns) ns ∧ prodI ns < 2 ^ 200 := by
  refine ⟨⟨fun x hx => (h x hx).1, rfl⟩, ?_⟩
  have h1 := prod_le (by decide) h
  have h2 := pow_mono (M := 529200) (by decide) hl
  have h3 : (529200 : Int) ^ 6 < 2 ^ 200 := by decide
  omega
end Mine
-- part ME
namespace Mine
section
local macro_rules | `(tactic| walk_at "call ref") => `(tactic| (k_here; refine wpAny_call ?_; k_dflt (refine' code_def ?k1 ?k2 ?k3 ?k4 ?k5 ?kA ?kF ?kK ?k6 ?k7 ?k8 ?k9 ?kB ?_ ?c2 ?c3 ?c4 ?c5; (case kA => exact rfl); (case kF => exact rfl); (case kK => first | exact rfl | assumption); (case k1 => k_asm); (case k2 => k_asm); (case k3 => k_asm); (case k4 => k_asm); (case k5 => k_asm); (case k6 => k_is); (case k7 => k_is); (case k8 => ktr_room); (case k9 => exact BindsTo.of_eq rfl); (case c5 => decide); (case kB => exact locs rfl); (case c2 => exact rfl); (case c3 => exact rfl); (case c4 => exact rfl); k_whole; intro g' L' h' FG' F' N' B' X' T'; (try dsimp only); (try k_fold)); walk_say "ENTER"))
local macro_rules | `(tactic| walk_at "call ref") => `(tactic| (k_here; k_dflt (refine' tells_int (of_min _ _ _ _ _ _ _ _ _) ?k1 ?k2 ?k3 ?k4 ?k5 ?kK ?kd ?ku ?_; (case k1 => k_asm); (case k2 => k_asm); (case k3 => k_asm); (case k4 => first | k_asm | exact cb_drop (by k_asm) drop1 | exact cb_drop (by k_asm) drop2); (case k5 => k_asm); (case kK => first | exact rfl | assumption); (case kd => first | omega | ktr_room | ((try simp only [depth_under_make, depth_deeper]); (try dsimp only [ktrTop]); omega)); (case ku => first | omega | ktr_units | ((try simp only [units_under_make, units_deeper]); (try dsimp only [ktrTop]); omega))); intro t9 h9 tk9 F9 N9; (try k_sweep); (try dsimp only); (try k_fold); walk_say "CONTRACT of_min"))
local macro_rules | `(tactic| walk_at "call ref") => `(tactic| (k_here; k_dflt (refine' tells_int (of_max _ _ _ _ _ _ _ _ _) ?k1 ?k2 ?k3 ?k4 ?k5 ?kK ?kd ?ku ?_; (case k1 => k_asm); (case k2 => k_asm); (case k3 => k_asm); (case k4 => first | k_asm | exact cb_drop (by k_asm) drop1 | exact cb_drop (by k_asm) drop2); (case k5 => k_asm); (case kK => first | exact rfl | assumption); (case kd => first | omega | ktr_room | ((try simp only [depth_under_make, depth_deeper]); (try dsimp only [ktrTop]); omega)); (case ku => first | omega | ktr_units | ((try simp only [units_under_make, units_deeper]); (try dsimp only [ktrTop]); omega))); intro t9 h9 tk9 F9 N9; (try k_sweep); (try dsimp only); (try k_fold); walk_say "CONTRACT of_max"))
local macro_rules | `(tactic| walk_at "pyIter ref") => `(tactic| ((with_reducible show wpAny _ _ (pyIter (Value.ref _)) _ _ _); refine halt ?_; walk_say "HALT"))
local macro_rules | `(tactic| k_all) => `(tactic| assumption)
local macro_rules | `(tactic| walk_at "mine same") => `(tactic| (intro z h1 h2; (simp only [List.contains_cons, List.contains_nil, Bool.or_false, Bool.or_eq_false_iff, beq_eq_false_iff_ne, ne_eq] at h2); simp [h1, h2]))
theorem ordered_call (prog : Program) (w : World) (nm rl : Addr) (vs : List Value) (ns : List Int) (n : Nat) (rest : List (Addr × Obj)) (hi : IntsAre vs ns) (hl : ns.length ≤ 6) :
    Tells prog w 298 6 [.ref nm, .ref rl] ((rl, listOf vs.toArray n) :: rest) (NetOut (net min max ns) ((rl, listOf vs.toArray n) :: rest)) := by
  refine Tells.mk ?_
  intro p loose mean mg mb dp un gd cn cs a' ccd cl outer A₀ base h₀ L m s Q E B F X N T hk hd hu hret
  refine wpAny_call ?_
  k_with_none
  k_dflt ktr_enter
  k_steps
  unfold Halt
  with_unfolding_all refine net_down [Str.ofString "place", Str.ofString "low", Str.ofString "high"] (ns.length - 1) (fun i ys => ys = netTo min max ns.length i ns) rfl (by assumption) (by omega) (by omega) (by omega) (by assumption) (by assumption) hi rfl ?_ ?_
  · intro i vs1 ns1 c1 t u h tk own hik hi1 hp1 hoff F1 N1
    (try k_fold)
    k_steps
    unfold Halt
    have hlen1 : ns1.length = ns.length := by rw [hp1, netTo_length]
    with_unfolding_all refine net_up [Str.ofString "low", Str.ofString "high"] (ns.length - 1 - i) (fun j ys => ys = netRow min max j ns1) rfl (by assumption) (by omega) (by omega) (by assumption) (by assumption) hi1 rfl ?_ ?_
    · intro j vs2 ns2 c2 t2 u2 h2 tk2 own2 hjk hi2 hp2 hoff2 F2 N2
      have hlen2 : ns2.length = ns.length := by rw [hp2, netRow_length, hlen1]
      rename (_ ∧ AllLt _ rest) => l1
      have hall := off_app (off_app (off_lt (l := (rl, listOf vs.toArray n) :: rest) l1) hoff) hoff2
      (try k_fold)
      k_steps
      refine ⟨rfl, _, _, _, _, _, _, rfl, by assumption, ?_, by assumption, by assumption, row_step hp2⟩
      walk_at "mine same"
    · intro vs2 ns2 c2 u2 h2 tk2 hi2 hp2 F2 N2
      dsimp only
      k_steps
      refine ⟨rfl, _, _, _, _, _, _, rfl, by assumption, ?_, by assumption, by assumption, by rw [netTo_succ, ← hp1]; exact hp2⟩
      walk_at "mine same"
  · intro vs1 ns1 c1 u h tk hi1 hp1 F1 N1
    dsimp only
    k_steps
    rename (_ ∧ AllLt _ rest) => l1
    have hi3 : IntsAre vs1 (net min max ns) := by unfold net; rw [← hp1]; exact hi1
    exact hret _ _ _ _ ⟨_, _, _, rfl, hi3, ktn_ltOf (l := (rl, listOf vs.toArray n) :: rest) l1, rfl⟩ (by assumption) (by assumption)
end
end Mine
-- part MG
namespace Mine
section
local macro_rules | `(tactic| walk_at "call ref") => `(tactic| (k_here; refine wpAny_call ?_; k_dflt (refine' code_def ?k1 ?k2 ?k3 ?k4 ?k5 ?kA ?kF ?kK ?k6 ?k7 ?k8 ?k9 ?kB ?_ ?c2 ?c3 ?c4 ?c5; (case kA => exact rfl); (case kF => exact rfl); (case kK => first | exact rfl | assumption); (case k1 => k_asm); (case k2 => k_asm); (case k3 => k_asm); (case k4 => k_asm); (case k5 => k_asm); (case k6 => k_is); (case k7 => k_is); (case k8 => ktr_room); (case k9 => exact BindsTo.of_eq rfl); (case c5 => decide); (case kB => exact locs rfl); (case c2 => exact rfl); (case c3 => exact rfl); (case c4 => exact rfl); k_whole; intro g' L' h' FG' F' N' B' X' T'; (try dsimp only); (try k_fold)); walk_say "ENTER"))
local macro_rules | `(tactic| walk_at "call ref") => `(tactic| (k_here; k_dflt (refine' tells_int (of_gcd _ _ _ _ _ _ _ _ ?q1 ?q2 _) ?k1 ?k2 ?k3 ?k4 ?k5 ?kK ?kd ?ku ?_; (case k1 => k_asm); (case k2 => k_asm); (case k3 => k_asm); (case k4 => first | k_asm | exact cb_drop (by k_asm) drop1 | exact cb_drop (by k_asm) drop2); (case k5 => k_asm); (case kK => first | exact rfl | assumption); (case kd => first | omega | ktr_room | ((try simp only [depth_under_make, depth_deeper]); (try dsimp only [ktrTop]); omega)); (case ku => first | omega | ktr_units | ((try simp only [units_under_make, units_deeper]); (try dsimp only [ktrTop]); omega)); (case q1 => exact Two.a0 (by assumption)); (case q2 => exact Two.b0 (by assumption))); intro t9 h9 tk9 F9 N9; (try k_sweep); (try dsimp only); (try k_fold); walk_say "CONTRACT of_gcd"))
local macro_rules | `(tactic| walk_at "call ref") => `(tactic| (k_here; k_dflt (refine' tells_int (of_mul _ _ _ _ _ _ _ _ ?q1 _) ?k1 ?k2 ?k3 ?k4 ?k5 ?kK ?kd ?ku ?_; (case k1 => k_asm); (case k2 => k_asm); (case k3 => k_asm); (case k4 => first | k_asm | exact cb_drop (by k_asm) drop1 | exact cb_drop (by k_asm) drop2); (case k5 => k_asm); (case kK => first | exact rfl | assumption); (case kd => first | omega | ktr_room | ((try simp only [depth_under_make, depth_deeper]); (try dsimp only [ktrTop]); omega)); (case ku => first | omega | ktr_units | ((try simp only [units_under_make, units_deeper]); (try dsimp only [ktrTop]); omega)); (case q1 => exact Two.m (by assumption))); intro t9 h9 tk9 F9 N9; (try k_sweep); (try dsimp only); (try k_fold); walk_say "CONTRACT of_mul"))
local macro_rules | `(tactic| walk_at "call ref") => `(tactic| (k_here; k_dflt (refine' tells_int (of_div _ _ _ _ _ _ _ _ ?q1 ?q2 ?q3 _) ?k1 ?k2 ?k3 ?k4 ?k5 ?kK ?kd ?ku ?_; (case k1 => k_asm); (case k2 => k_asm); (case k3 => k_asm); (case k4 => first | k_asm | exact cb_drop (by k_asm) drop1 | exact cb_drop (by k_asm) drop2); (case k5 => k_asm); (case kK => first | exact rfl | assumption); (case kd => first | omega | ktr_room | ((try simp only [depth_under_make, depth_deeper]); (try dsimp only [ktrTop]); omega)); (case ku => first | omega | ktr_units | ((try simp only [units_under_make, units_deeper]); (try dsimp only [ktrTop]); omega)); (case q1 => exact Two.p (by assumption)); (case q2 => exact Two.g (by assumption)); (case q3 => exact Two.l (by assumption))); intro t9 h9 tk9 F9 N9; (try k_sweep); (try dsimp only); (try k_fold); walk_say "CONTRACT of_div"))
local macro_rules | `(tactic| walk_at "pyIter ref") => `(tactic| ((with_reducible show wpAny _ _ (pyIter (Value.ref _)) _ _ _); refine halt ?_; walk_say "HALT"))
local macro_rules | `(tactic| k_all) => `(tactic| assumption)
local macro_rules | `(tactic| walk_at "mine same") => `(tactic| (intro z h1 h2; (simp only [List.contains_cons, List.contains_nil, Bool.or_false, Bool.or_eq_false_iff, beq_eq_false_iff_ne, ne_eq] at h2); simp [h1, h2]))
theorem chained_call (prog : Program) (w : World) (nm rl : Addr) (vs : List Value) (ns : List Int) (n : Nat) (rest : List (Addr × Obj)) (hi : IntsAre vs ns) (hl : ns.length ≤ 6) (hg : ∀ x ∈ ns, 1 ≤ x ∧ x ≤ 529200) :
    Tells prog w 305 6 [.ref nm, .ref rl] ((rl, listOf vs.toArray n) :: rest) (NetOut (net gcdI lcmI ns) ((rl, listOf vs.toArray n) :: rest)) := by
  obtain ⟨hG, hC⟩ := good_start hg hl
  refine Tells.mk ?_
  intro p loose mean mg mb dp un gd cn cs a' ccd cl outer A₀ base h₀ L m s Q E B F X N T hk hd hu hret
  refine wpAny_call ?_
  k_with_none
  k_dflt ktr_enter
  k_steps
  unfold Halt
  with_unfolding_all refine net_down [Str.ofString "place", Str.ofString "low", Str.ofString "high", Str.ofString "both"] (ns.length - 1) (fun i ys => ys = netTo gcdI lcmI ns.length i ns) rfl (by assumption) (by omega) (by omega) (by omega) (by assumption) (by assumption) hi rfl ?_ ?_
  · intro i vs1 ns1 c1 t u h tk own hik hi1 hp1 hoff F1 N1
    (try k_fold)
    k_steps
    unfold Halt
    have hlen1 : ns1.length = ns.length := by rw [hp1, netTo_length]
    have hG1 : Good (prodI ns) ns1 := by rw [hp1]; exact good_to hG
    with_unfolding_all refine net_up [Str.ofString "low", Str.ofString "high", Str.ofString "both"] (ns.length - 1 - i) (fun j ys => ys = netRow gcdI lcmI j ns1) rfl (by assumption) (by omega) (by omega) (by assumption) (by assumption) hi1 rfl ?_ ?_
    · intro j vs2 ns2 c2 t2 u2 h2 tk2 own2 hjk hi2 hp2 hoff2 F2 N2
      have hlen2 : ns2.length = ns.length := by rw [hp2, netRow_length, hlen1]
      have hG2 : Good (prodI ns) ns2 := by rw [hp2]; exact good_row hG1 (by omega)
      have hTwo := two_of (j := j) hC hG2 (by omega)
      rename (_ ∧ AllLt _ rest) => l1
      have hall := off_app (off_app (off_lt (l := (rl, listOf vs.toArray n) :: rest) l1) hoff) hoff2
      (try k_fold)
      k_steps
      refine ⟨rfl, _, _, _, _, _, _, rfl, by assumption, ?_, by assumption, by assumption, row_step (f := gcdI) (g := lcmI) hp2⟩
      walk_at "mine same"
    · intro vs2 ns2 c2 u2 h2 tk2 hi2 hp2 F2 N2
      dsimp only
      k_steps
      refine ⟨rfl, _, _, _, _, _, _, rfl, by assumption, ?_, by assumption, by assumption, by rw [netTo_succ, ← hp1]; exact hp2⟩
      walk_at "mine same"
  · intro vs1 ns1 c1 u h tk hi1 hp1 F1 N1
    dsimp only
    k_steps
    rename (_ ∧ AllLt _ rest) => l1
    have hi3 : IntsAre vs1 (net gcdI lcmI ns) := by unfold net; rw [← hp1]; exact hi1
    exact hret _ _ _ _ ⟨_, _, _, rfl, hi3, ktn_ltOf (l := (rl, listOf vs.toArray n) :: rest) l1, rfl⟩ (by assumption) (by assumption)
end
end Mine
-- part MH
namespace Mine
section
variable {prog : Program} {w : World} {A : Around} {h₀ : Heap} {L : Addr} {m : Str → Option Value} {env : Env} {elt : Expr} {x : Str} {scope : Scope} {cl : List (Str × Addr)} {s : Shared} {S : List (Addr × Obj) → Prop} {P : Nat → Value → Prop} {Fin : List Value → List (Addr × Obj) → Prop}
/-- the end of one element that draws from the pool -/
def PoolElt (h₀ : Heap) (L : Addr) (m : Str → Option Value) (s₁ : Shared) (Pv : Int → Prop) (pl sl : Addr) (vs : List Value) (n' : Nat) (R : List (Addr × Obj)) (y : Value) (s₂ : Shared) : Prop :=
  ∃ z t c i k t1 t2 t3 n h' tk', y = .int z t ∧ Pv z ∧ -1 ≤ i ∧ s₂ = { s₁ with heap := h', toks := tk' } ∧ Fr h₀ L h' m ∧ News h₀ L h' (PoolL pl sl vs n' R c i k t1 t2 t3 n)
theorem pool_in {h : Heap} {a b c d e : Addr × Obj} {r : List (Addr × Obj)} (N : News h₀ L h (a :: b :: c :: d :: e :: r)) : News h₀ L h (d :: e :: a :: b :: c :: r) := fun p hp => N p (by
  simp only [List.mem_cons] at hp ⊢
  rcases hp with h | h | h | h | h | h <;> simp [h])
theorem pool_in1 {h : Heap} {a d e : Addr × Obj} {r : List (Addr × Obj)} (N : News h₀ L h (a :: d :: e :: r)) : News h₀ L h (d :: e :: a :: r) := fun p hp => N p (by
  simp only [List.mem_cons] at hp ⊢
  rcases hp with h | h | h | h <;> simp [h])
theorem pool_out {h : Heap} {a b c d e : Addr × Obj} {r : List (Addr × Obj)} (N : News h₀ L h (d :: e :: a :: b :: c :: r)) : News h₀ L h (a :: b :: c :: d :: e :: r) := fun p hp => N p (by
  simp only [List.mem_cons] at hp ⊢
  rcases hp with h | h | h | h | h | h <;> simp [h])
theorem comp_pool {pl sl : Addr} {vs : List Value} {n' : Nat} {rest : List (Addr × Obj)} {c i k : Int} {t1 t2 t3 : Tok} {nn : Nat} {n : Nat} (Pv : Int → Prop) (hS : ∀ c i k t1 t2 t3 nn, S (PoolL pl sl vs n' rest c i k t1 t2 t3 nn)) (h1 : -1 ≤ i) (ha : ∀ p ∈ (sl, listOf vs.toArray n') :: rest, p.1 ≠ pl)
    (turn : ∀ I oI C oC D m₂ ys h tk (E' : Value → Shared → Prop) c i k t1 t2 t3 nn, LCg.NsObj oC m₂ → -1 ≤ i → Fr h₀ L h m → News h₀ L h (PoolL pl sl vs n' ((I, oI) :: (C, oC) :: (D, LCg.lst ys) :: rest) c i k t1 t2 t3 nn) →
      (∀ p ∈ (sl, listOf vs.toArray n') :: (I, oI) :: (C, oC) :: (D, LCg.lst ys) :: rest, p.1 ≠ pl) →
      wpAny (model prog w) A (eval elt (compEnvC scope cl C env)) (PoolElt h₀ L m { s with heap := h, toks := tk } Pv pl sl vs n' ((I, oI) :: (C, oC) :: (D, LCg.lst ys) :: rest)) E' { s with heap := h, toks := tk })
    (fin : ∀ ys zs c i k t1 t2 t3 nn, IntsAre ys zs → zs.length = n → (∀ z ∈ zs, Pv z) → -1 ≤ i → Fin ys (PoolL pl sl vs n' rest c i k t1 t2 t3 nn)) :
    LCg.CompRest prog w A h₀ L m env elt x scope cl s S P Fin n 0 [] (PoolL pl sl vs n' rest c i k t1 t2 t3 nn) := by
  have key : ∀ (j i0 : Nat) (ys : List Value) (zs : List Int) (c i k : Int) (t1 t2 t3 : Tok) (nn : Nat), i0 + j = n → IntsAre ys zs → zs.length = i0 → (∀ z ∈ zs, Pv z) → -1 ≤ i →
      LCg.CompRest prog w A h₀ L m env elt x scope cl s S P Fin j i0 ys (PoolL pl sl vs n' rest c i k t1 t2 t3 nn) := by
    intro j
    induction j with
    | zero =>
      intro i0 ys zs c i k t1 t2 t3 nn hn hy hl hz hi
      exact LCg.CompRest.zero (fin ys zs c i k t1 t2 t3 nn hy (by omega) hz hi)
    | succ j ih =>
      intro i0 ys zs c i k t1 t2 t3 nn hn hy hl hz hi
      refine LCg.CompRest.succ ?_
      intro v I oI C oC D m₂ h tk E' hv hC hx F N off ne
      have off1 := off.mem
      have hpl := off1 (pl, listOf [.ref sl, .int c t1, .int i t2, .int k t3].toArray nn) (.head _)
      refine wpAny_mono (turn I oI C oC D m₂ ys h tk E' c i k t1 t2 t3 nn hC hi F (pool_in N) ?_) (fun y s₂ hq => ?_) fun _ _ e => e
      · intro p hp
        rcases List.mem_cons.mp hp with rfl | hp
        · exact ha _ (.head _)
        · rcases List.mem_cons.mp hp with rfl | hp
          · exact Ne.symm hpl.1
          · rcases List.mem_cons.mp hp with rfl | hp
            · exact Ne.symm hpl.2.1
            · rcases List.mem_cons.mp hp with rfl | hp
              · exact Ne.symm hpl.2.2
              · exact ha p (.tail _ hp)
      · obtain ⟨z, t, c', i', k', u1, u2, u3, n2, h', tk', rfl, hP, hi', rfl, F', N'⟩ := hq
        refine ⟨h', tk', PoolL pl sl vs n' rest c' i' k' u1 u2 u3 n2, rfl, F', pool_out N', ⟨hpl, off.2⟩, hS c' i' k' u1 u2 u3 n2, ?_⟩
        refine ih (i0 + 1) (ys ++ [.int z t]) (zs ++ [z]) c' i' k' u1 u2 u3 n2 (by omega) (IntsAre.append hy (.cons z t .nil)) (by rw [List.length_append, List.length_singleton, hl]) (fun q hq => ?_) hi'
        rcases List.mem_append.mp hq with hq | hq
        · exact hz q hq
        · rw [List.mem_singleton.mp hq]; exact hP
  exact key n 0 [] [] c i k t1 t2 t3 nn (by omega) .nil rfl (fun _ h => nomatch h) h1
theorem pool_src {FinS : Shared → List Value → List (Addr × Obj) → Prop} {pl sl r : Addr} {vs : List Value} {n' : Nat} {rest : List (Addr × Obj)} {c i k d : Int} {t1 t2 t3 t u v : Tok} {nn : Nat} (Pv : Int → Prop)
    (hh : A.handled = none) (F : Fr h₀ L s.heap m) (N : News h₀ L s.heap (PoolL pl sl vs n' rest c i k t1 t2 t3 nn)) (hr : IsRange s.heap r 0 d 1 t u v) (h0 : 0 ≤ d) (h7 : d < 7) (h1 : -1 ≤ i) (ha : ∀ p ∈ (sl, listOf vs.toArray n') :: rest, p.1 ≠ pl)
    (turn : ∀ I oI C oC D m₂ ys h tk (E' : Value → Shared → Prop) c i k t1 t2 t3 nn, LCg.NsObj oC m₂ → -1 ≤ i → Fr h₀ L h m → News h₀ L h (PoolL pl sl vs n' ((I, oI) :: (C, oC) :: (D, LCg.lst ys) :: rest) c i k t1 t2 t3 nn) →
      (∀ p ∈ (sl, listOf vs.toArray n') :: (I, oI) :: (C, oC) :: (D, LCg.lst ys) :: rest, p.1 ≠ pl) →
      wpAny (model prog w) A (eval elt (compEnvC scope cl C env)) (PoolElt h₀ L m { s with heap := h, toks := tk } Pv pl sl vs n' ((I, oI) :: (C, oC) :: (D, LCg.lst ys) :: rest)) E' { s with heap := h, toks := tk })
    (fin : ∀ g ys zs c i k t1 t2 t3 nn, IntsAre ys zs → zs.length ≤ 6 → (∀ z ∈ zs, Pv z) → -1 ≤ i → FinS { s with heap := g } ys (PoolL pl sl vs n' rest c i k t1 t2 t3 nn)) :
    LCg.CompSrc prog w A h₀ L m env elt x scope cl FinS (.ref r) s := by
  have e1 : Builtin.Range.rangeSize 0 d 1 = (d.toNat : Int) := by
    unfold Builtin.Range.rangeSize
    simp only [show ((1 : Int) > 0) by decide, if_true, Int.ediv_one]
    split <;> omega
  have e2 : Builtin.Range.small 0 d 1 = true := by
    unfold Builtin.Range.small
    rw [e1]
    simp only [Builtin.Range.rangeFitsLong, Bool.and_eq_true, Bool.or_eq_true, decide_eq_true_eq, beq_iff_eq, show ((1 : Int) > 0) by decide, if_true]
    omega
  refine LCg.CompSrc.range hh F N hr e2 e1 (by rw [sizeLine_eq]; omega) fun g => comp_pool Pv (fun _ _ _ _ _ _ _ => trivial) h1 ha turn fun ys zs c i k t1 t2 t3 nn hy hl hz hi => fin g ys zs c i k t1 t2 t3 nn hy (by omega) hz hi
end
end Mine
-- part MK
namespace Mine
def bodyOf : Stmt → List Stmt
  | .FunctionDef _ _ b _ _ _ _ _ _ _ => b
  | _ => []
def scopeOf : Stmt → Scope
  | .FunctionDef _ _ _ _ _ _ s _ _ _ => s
  | _ => default
def lawDef : Stmt := (PySem.Challenge.pw_sa0147_01.main.body.drop 34).headD (.Pass ⟨0, 0, 0, 0⟩)
theorem tells_net {prog : Program} {w : World} {rl : Addr} {vs : List Value} {n : Nat} {l : List (Addr × Obj)} {ms : List Int} {need : Nat} {as : List Value} {f : Addr} {p : Program} {loose : List Str} {mean : ExcName → Option Value} {mg mb : Str → Option Value} {dp un : Nat} {gd : Option (List Code)} {cn : Str} {cs : Scope} {a : Addr} {ccd : Value} {cl : List (Str × Addr)} {outer : List Env} {A₀ : Around} {base h₀ : Heap} {L : Addr} {m : Str → Option Value} {s : Shared} {Q E : Value → Shared → Prop}
    (C : Tells prog w f need as ((rl, listOf vs.toArray n) :: l) (NetOut ms ((rl, listOf vs.toArray n) :: l))) (B : Below A₀ base outer h₀) (F : Fr h₀ L s.heap m) (X : (hd.heap_39 w.params).In h₀) (N : News h₀ L s.heap l) (T : Top p loose mean mg mb h₀) (hk : cs.kind = .function)
    (hd : dp + need < recursionLimit) (hu : un + 8 * need < cLine) (hm : (rl, listOf vs.toArray n) ∈ l) (hret : ∀ D ws c h' tk', IntsAre ws ms → AllLt D l → Fr h₀ L h' m → News h₀ L h' ((D, listOf ws.toArray c) :: l) → Q (.ref D) { s with heap := h', toks := tk' }) :
    wpAny (model prog w) (ktrTop dp un gd cn cs L a ccd cl outer) (call (.ref f) as) Q E s :=
  tells_use C B F X (fun p hp => (List.mem_cons.mp hp).elim (fun e => e ▸ N _ hm) (N p)) T hk hd hu fun v news' h' tk' P F' N' => by
    obtain ⟨D, ws, c, rfl, h1, h2, rfl⟩ := P
    exact hret D ws c h' tk' h1 (allLt_of fun p hp => h2 p (.tail _ hp)) F' fun p hp => N' p (by
      rcases List.mem_cons.mp hp with h | h
      · exact h ▸ .head _
      · exact .tail _ (.tail _ h))
end Mine
-- part MQ
namespace Mine
section
variable {prog : Program} {w : World} {A : Around} {h₀ : Heap} {L : Addr} {m : Str → Option Value} {env : Env} {elt : Expr} {x : Str} {scope : Scope} {cl : List (Str × Addr)} {s : Shared} {S : List (Addr × Obj) → Prop} {P : Nat → Value → Prop} {Fin : List Value → List (Addr × Obj) → Prop}
/-- the end of one element that is an int and leaves the ledger as it was -/
def IntElt (h₀ : Heap) (L : Addr) (m : Str → Option Value) (s₁ : Shared) (r : Int) (news : List (Addr × Obj)) (y : Value) (s₂ : Shared) : Prop :=
  ∃ t h' tk', y = .int r t ∧ s₂ = { s₁ with heap := h', toks := tk' } ∧ Fr h₀ L h' m ∧ News h₀ L h' news
theorem comp_ints {FinS : Shared → List Value → List (Addr × Obj) → Prop} {ax : Addr} {vs : List Value} {ns : List Int} {k : Nat} {news : List (Addr × Obj)} (g : Int → Int)
    (hh : A.handled = none) (F : Fr h₀ L s.heap m) (N : News h₀ L s.heap news) (hm : (ax, listOf vs.toArray k) ∈ news) (hi : IntsAre vs ns) (hl : ns.length ≤ 1000)
    (turn : ∀ z t I oI C oC D m₂ ys h tk (E' : Value → Shared → Prop), z ∈ ns → LCg.NsObj oC m₂ → m₂ x = some (.int z t) → Fr h₀ L h m → News h₀ L h ((I, oI) :: (C, oC) :: (D, LCg.lst ys) :: news) →
      wpAny (model prog w) A (eval elt (compEnvC scope cl C env)) (IntElt h₀ L m { s with heap := h, toks := tk } (g z) ((I, oI) :: (C, oC) :: (D, LCg.lst ys) :: news)) E' { s with heap := h, toks := tk })
    (fin : ∀ q ys, IntsAre ys (ns.map g) → FinS { s with heap := q } ys news) :
    LCg.CompSrc prog w A h₀ L m env elt x scope cl FinS (.ref ax) s := by
  have hlen : vs.toArray.size = ns.length := by rw [List.size_toArray]; exact hi.length
  refine LCg.CompSrc.ledger (its := vs.toArray) (k := k) hh F N hm (by rw [hlen, sizeLine_eq]; omega) fun q => ?_
  have key : ∀ (j i0 : Nat) (ys : List Value), i0 + j = ns.length → IntsAre ys ((ns.take i0).map g) →
      LCg.CompRest prog w A h₀ L m env elt x scope cl { s with heap := q } (LCg.SrcAt h₀ ax vs.toArray) (fun i v => vs.toArray[i]? = some v) (FinS { s with heap := q }) j i0 ys news := by
    intro j
    induction j with
    | zero =>
      intro i0 ys hn hy
      have e : i0 = ns.length := by omega
      subst e
      rw [List.take_length] at hy
      exact LCg.CompRest.zero (fin q ys hy)
    | succ j ih =>
      intro i0 ys hn hy
      refine LCg.CompRest.succ ?_
      intro v I oI C oC D m₂ h tk E' hv hC hx F N off ne
      obtain ⟨z, t, rfl, hz⟩ := IntsAre.at hi i0 v (by simpa using hv)
      refine wpAny_mono (turn z t I oI C oC D m₂ ys h tk E' (List.mem_of_getElem? hz) hC hx F N) (fun y s₂ hq => ?_) fun _ _ e => e
      obtain ⟨t', h', tk', rfl, rfl, F', N'⟩ := hq
      refine ⟨h', tk', news, rfl, F', N', off, .inr ⟨_, hm, rfl, _, rfl⟩, ?_⟩
      refine ih (i0 + 1) _ (by omega) ?_
      rw [List.take_add_one, hz]
      simpa using IntsAre.append hy (.cons (g z) t' .nil)
  rw [hlen]
  exact key ns.length 0 [] (by omega) (by simp only [List.take_zero, List.map_nil]; exact .nil)
end
end Mine
-- part MS
namespace Mine
theorem sorted_unique : ∀ {l1 l2 : List Int}, l1.Perm l2 → l1.Pairwise (· ≤ ·) → l2.Pairwise (· ≤ ·) → l1 = l2
  | [], l2, h, _, _ => by rw [List.Perm.nil_eq h]
  | a :: l1, [], h, _, _ => absurd h.length_eq (by simp)
  | a :: l1, b :: l2, h, h1, h2 => by
    rw [List.pairwise_cons] at h1 h2
    have hab : a ≤ b := by
      rcases List.mem_cons.mp (h.symm.subset (.head _)) with e | e
      · exact Int.le_of_eq e.symm
      · exact h1.1 b e
    have hba : b ≤ a := by
      rcases List.mem_cons.mp (h.subset (.head _)) with e | e
      · exact Int.le_of_eq e.symm
      · exact h2.1 a e
    have e : a = b := by omega
    subst e
    rw [sorted_unique (List.Perm.cons_inv h) h1.2 h2.2]
theorem netRow_cons (f g : Int → Int → Int) (k : Nat) (x y : Int) (r : List Int) : netRow f g (k + 1) (x :: y :: r) = f x y :: netRow f g k (g x y :: r) := by
  have key : ∀ (l : List Nat) (a : Int) (xs : List Int), (l.map Nat.succ).foldl (netAt f g) (a :: xs) = a :: l.foldl (netAt f g) xs := by
    intro l
    induction l with
    | nil => intro a xs; rfl
    | cons j l ih => intro a xs; exact ih a (netAt f g xs j)
  unfold netRow
  rw [List.range_succ_eq_map, List.foldl_cons, netAt_two, key]
/-- a meet and a join over a domain -/
structure Lat (D : Int → Prop) (R : Int → Int → Prop) (f g : Int → Int → Int) : Prop where
  df : ∀ {a b}, D a → D b → D (f a b)
  dg : ∀ {a b}, D a → D b → D (g a b)
  fg : ∀ {a b}, D a → D b → R (f a b) (g a b)
  ua : ∀ {a b}, D a → D b → R a (g a b)
  ub : ∀ {a b}, D a → D b → R b (g a b)
  fl : ∀ {a b d}, D a → D b → R a d → R b d → R (f a b) d
  gl : ∀ {a b d}, D a → D b → R a d → R b d → R (g a b) d
  tr : ∀ {a b c}, R a b → R b c → R a c
  rf : ∀ a, R a a
section
variable {D : Int → Prop} {R : Int → Int → Prop} {f g : Int → Int → Int}
theorem at_dom (W : Lat D R f g) : ∀ {xs : List Int} {k : Nat}, (∀ z ∈ xs, D z) → k + 1 < xs.length → ∀ z ∈ netAt f g xs k, D z
  | x :: y :: xs, 0, h, _, z, hz => by
    rw [netAt_two] at hz
    have h1 := h x (.head _)
    have h2 := h y (.tail _ (.head _))
    rcases List.mem_cons.mp hz with rfl | hz
    · exact W.df h1 h2
    · rcases List.mem_cons.mp hz with rfl | hz
      · exact W.dg h1 h2
      · exact h z (.tail _ (.tail _ hz))
  | x :: xs, k + 1, h, hk, z, hz => by
    rw [netAt_cons] at hz
    rcases List.mem_cons.mp hz with rfl | hz
    · exact h _ (.head _)
    · exact at_dom W (fun z hz => h z (.tail _ hz)) (Nat.lt_of_succ_lt_succ hk) z hz
theorem row_dom (W : Lat D R f g) {xs : List Int} {k : Nat} (h : ∀ z ∈ xs, D z) (hk : k < xs.length ∨ k = 0) : ∀ z ∈ netRow f g k xs, D z := by
  induction k with
  | zero => exact h
  | succ k ih =>
    rw [netRow_succ]
    exact at_dom W (ih (by omega)) (by rw [netRow_length]; omega)
theorem to_dom (W : Lat D R f g) {xs : List Int} {i : Nat} (h : ∀ z ∈ xs, D z) : ∀ z ∈ netTo f g xs.length i xs, D z := by
  induction i with
  | zero => exact h
  | succ i ih =>
    rw [netTo_succ]
    exact row_dom W ih (by rw [netTo_length]; omega)
/-- one round: what lies behind stays, what was below d stays below d, and all that was touched lies below its last -/
theorem row_facts (W : Lat D R f g) : ∀ (k : Nat) (xs : List Int), (∀ z ∈ xs, D z) → k < xs.length →
    (netRow f g k xs).drop (k + 1) = xs.drop (k + 1) ∧ (∀ d, (∀ z ∈ xs.take (k + 1), R z d) → ∀ z ∈ (netRow f g k xs).take (k + 1), R z d) ∧ (∀ z ∈ (netRow f g k xs).take k, R z ((netRow f g k xs).getD k 0)) ∧ (∀ z ∈ xs.take (k + 1), R z ((netRow f g k xs).getD k 0))
  | 0, [], _, h => absurd h (Nat.not_lt_zero _)
  | 0, x :: r, hD, _ => by
    refine ⟨rfl, fun d h => h, (fun z hz => by simp at hz), fun z hz => ?_⟩
    simp only [Nat.zero_add, List.take_succ_cons, List.take_zero, List.mem_singleton] at hz
    subst hz
    exact W.rf _
  | k + 1, [], _, h => absurd h (Nat.not_lt_zero _)
  | k + 1, [x], _, h => by simp at h
  | k + 1, x :: y :: r, hD, h => by
    have dx := hD x (.head _)
    have dy := hD y (.tail _ (.head _))
    have hD' : ∀ z ∈ g x y :: r, D z := fun z hz => by
      rcases List.mem_cons.mp hz with rfl | hz
      · exact W.dg dx dy
      · exact hD z (.tail _ (.tail _ hz))
    obtain ⟨e1, e2, e3, e4⟩ := row_facts W k (g x y :: r) hD' (by simp only [List.length_cons] at h ⊢; omega)
    rw [netRow_cons]
    have hg : R (g x y) ((netRow f g k (g x y :: r)).getD k 0) := e4 _ (by simp)
    refine ⟨?_, ?_, ?_, ?_⟩
    · simpa using e1
    · intro d hd z hz
      have rx : R x d := hd x (by simp)
      have ry : R y d := hd y (by simp)
      simp only [List.take_succ_cons, List.mem_cons] at hz
      rcases hz with rfl | hz
      · exact W.fl dx dy rx ry
      · refine e2 d (fun z hz => ?_) z hz
        simp only [List.take_succ_cons, List.mem_cons] at hz
        rcases hz with rfl | hz
        · exact W.gl dx dy rx ry
        · exact hd z (by simp [hz])
    · intro z hz
      simp only [List.take_succ_cons, List.mem_cons] at hz
      show R z ((netRow f g k (g x y :: r)).getD k 0)
      rcases hz with rfl | hz
      · exact W.tr (W.fg dx dy) hg
      · exact e3 z hz
    · intro z hz
      show R z ((netRow f g k (g x y :: r)).getD k 0)
      simp only [List.take_succ_cons, List.mem_cons] at hz
      rcases hz with rfl | rfl | hz
      · exact W.tr (W.ua dx dy) hg
      · exact W.tr (W.ub dx dy) hg
      · exact e4 z (by simp [hz])
theorem drop_at {xs : List Int} {k : Nat} (h : k < xs.length) : xs.drop k = xs.getD k 0 :: xs.drop (k + 1) := by
  rw [List.drop_eq_getElem_cons h, List.getD_eq_getElem?_getD, List.getElem?_eq_getElem h]; rfl
theorem take_at {xs : List Int} {k : Nat} (h : k < xs.length) : xs.getD k 0 ∈ xs.take (k + 1) := by
  rw [List.getD_eq_getElem?_getD, List.getElem?_eq_getElem h]
  exact List.mem_take_iff_getElem.mpr ⟨k, by omega, rfl⟩
theorem to_facts (W : Lat D R f g) {xs : List Int} (h : ∀ z ∈ xs, D z) : ∀ i, i < xs.length →
    ((netTo f g xs.length i xs).drop (xs.length - i)).Pairwise R ∧ ∀ a ∈ (netTo f g xs.length i xs).take (xs.length - i), ∀ b ∈ (netTo f g xs.length i xs).drop (xs.length - i), R a b
  | 0, _ => by
    rw [netTo_zero, Nat.sub_zero, List.drop_length]
    exact ⟨.nil, fun _ _ b hb => nomatch hb⟩
  | i + 1, hi => by
    obtain ⟨h1, h2⟩ := to_facts W h i (by omega)
    rw [netTo_succ]
    have hl : (netTo f g xs.length i xs).length = xs.length := netTo_length ..
    have hdom : ∀ z ∈ netTo f g xs.length i xs, D z := to_dom W h
    generalize netTo f g xs.length i xs = ys at *
    have ek : xs.length - i = (xs.length - 1 - i) + 1 := by omega
    have ek2 : xs.length - (i + 1) = xs.length - 1 - i := by omega
    rw [ek] at h1 h2
    rw [ek2]
    generalize hk : xs.length - 1 - i = k at *
    have hkl : k < ys.length := by omega
    obtain ⟨e1, e2, e3, _⟩ := row_facts W k ys hdom hkl
    have hkl' : k < (netRow f g k ys).length := by rw [netRow_length]; exact hkl
    have hat := take_at hkl'
    have below : ∀ a ∈ (netRow f g k ys).take (k + 1), ∀ b ∈ ys.drop (k + 1), R a b := fun a ha b hb => e2 b (fun z hz => h2 z hz b hb) a ha
    rw [drop_at hkl', e1]
    refine ⟨List.pairwise_cons.mpr ⟨fun b hb => below _ hat b hb, h1⟩, fun a ha b hb => ?_⟩
    have ha' : a ∈ (netRow f g k ys).take (k + 1) := by
      rw [List.take_add_one]
      exact List.mem_append_left _ ha
    rcases List.mem_cons.mp hb with rfl | hb
    · exact e3 a ha
    · exact below a ha' b hb
theorem net_pairwise (W : Lat D R f g) {xs : List Int} (h : ∀ z ∈ xs, D z) : (net f g xs).Pairwise R := by
  unfold net
  cases xs with
  | nil => exact .nil
  | cons x r =>
    obtain ⟨h1, h2⟩ := to_facts W h r.length (by simp)
    have e : (x :: r).length - r.length = 1 := by simp
    have e2 : (x :: r).length - 1 = r.length := by simp
    rw [e] at h1 h2
    rw [e2]
    have hl : (netTo f g (x :: r).length r.length (x :: r)).length = r.length + 1 := by rw [netTo_length]; rfl
    generalize netTo f g (x :: r).length r.length (x :: r) = ys at *
    cases ys with
    | nil => exact .nil
    | cons y t =>
      rw [List.pairwise_cons]
      exact ⟨fun b hb => h2 y (by simp) b (by simpa using hb), by simpa using h1⟩
theorem at_inv {T : Int → Prop} (hT : ∀ {a b}, D a → D b → T (f a b) → T (g a b) → T a ∧ T b) : ∀ {xs : List Int} {k : Nat}, (∀ z ∈ xs, D z) → k + 1 < xs.length → (∀ z ∈ netAt f g xs k, T z) → ∀ z ∈ xs, T z
  | x :: y :: xs, 0, hD, _, h, z, hz => by
    rw [netAt_two] at h
    obtain ⟨t1, t2⟩ := hT (hD x (.head _)) (hD y (.tail _ (.head _))) (h _ (.head _)) (h _ (.tail _ (.head _)))
    rcases List.mem_cons.mp hz with rfl | hz
    · exact t1
    · rcases List.mem_cons.mp hz with rfl | hz
      · exact t2
      · exact h z (.tail _ (.tail _ hz))
  | x :: xs, k + 1, hD, hk, h, z, hz => by
    rw [netAt_cons] at h
    rcases List.mem_cons.mp hz with rfl | hz
    · exact h _ (.head _)
    · exact at_inv hT (fun z hz => hD z (.tail _ hz)) (Nat.lt_of_succ_lt_succ hk) (fun z hz => h z (.tail _ hz)) z hz
theorem row_inv (W : Lat D R f g) {T : Int → Prop} (hT : ∀ {a b}, D a → D b → T (f a b) → T (g a b) → T a ∧ T b) {xs : List Int} : ∀ {k : Nat}, (∀ z ∈ xs, D z) → k < xs.length ∨ k = 0 → (∀ z ∈ netRow f g k xs, T z) → ∀ z ∈ xs, T z
  | 0, _, _, h => h
  | k + 1, hD, hk, h => by
    rw [netRow_succ] at h
    exact row_inv W hT hD (by omega) (at_inv hT (row_dom W hD (by omega)) (by rw [netRow_length]; omega) h)
theorem to_inv (W : Lat D R f g) {T : Int → Prop} (hT : ∀ {a b}, D a → D b → T (f a b) → T (g a b) → T a ∧ T b) {xs : List Int} : ∀ {i : Nat}, (∀ z ∈ xs, D z) → (∀ z ∈ netTo f g xs.length i xs, T z) → ∀ z ∈ xs, T z
  | 0, _, h => h
  | i + 1, hD, h => by
    rw [netTo_succ] at h
    exact to_inv W hT hD (row_inv W hT (to_dom W hD) (by rw [netTo_length]; omega) h)
end
theorem at_map {f g f' g' : Int → Int → Int} {q : Int → Int} {D : Int → Prop} (hf : ∀ {a b}, D a → D b → q (f a b) = f' (q a) (q b)) (hg : ∀ {a b}, D a → D b → q (g a b) = g' (q a) (q b)) : ∀ {xs : List Int} {k : Nat}, (∀ z ∈ xs, D z) → k + 1 < xs.length → (netAt f g xs k).map q = netAt f' g' (xs.map q) k
  | x :: y :: xs, 0, h, _ => by
    rw [netAt_two, List.map_cons, List.map_cons, List.map_cons, List.map_cons, netAt_two, hf (h x (.head _)) (h y (.tail _ (.head _))), hg (h x (.head _)) (h y (.tail _ (.head _)))]
  | x :: xs, k + 1, h, hk => by
    rw [netAt_cons, List.map_cons, List.map_cons, netAt_cons, at_map hf hg (fun z hz => h z (.tail _ hz)) (Nat.lt_of_succ_lt_succ hk)]
theorem row_map {f g f' g' : Int → Int → Int} {q : Int → Int} {D : Int → Prop} {R : Int → Int → Prop} (W : Lat D R f g) (hf : ∀ {a b}, D a → D b → q (f a b) = f' (q a) (q b)) (hg : ∀ {a b}, D a → D b → q (g a b) = g' (q a) (q b)) {xs : List Int} : ∀ {k : Nat}, (∀ z ∈ xs, D z) → k < xs.length ∨ k = 0 → (netRow f g k xs).map q = netRow f' g' k (xs.map q)
  | 0, _, _ => rfl
  | k + 1, h, hk => by
    rw [netRow_succ, netRow_succ, at_map hf hg (row_dom W h (by omega)) (by rw [netRow_length]; omega), row_map W hf hg h (by omega)]
theorem to_map {f g f' g' : Int → Int → Int} {q : Int → Int} {D : Int → Prop} {R : Int → Int → Prop} (W : Lat D R f g) (hf : ∀ {a b}, D a → D b → q (f a b) = f' (q a) (q b)) (hg : ∀ {a b}, D a → D b → q (g a b) = g' (q a) (q b)) {xs : List Int} (h : ∀ z ∈ xs, D z) : ∀ {i : Nat}, (netTo f g xs.length i xs).map q = netTo f' g' xs.length i (xs.map q)
  | 0 => rfl
  | i + 1 => by
    rw [netTo_succ, netTo_succ, row_map W hf hg (to_dom W h) (by rw [netTo_length]; omega), to_map W hf hg h]
theorem net_map {f g f' g' : Int → Int → Int} {q : Int → Int} {D : Int → Prop} {R : Int → Int → Prop} (W : Lat D R f g) (hf : ∀ {a b}, D a → D b → q (f a b) = f' (q a) (q b)) (hg : ∀ {a b}, D a → D b → q (g a b) = g' (q a) (q b)) {xs : List Int} (h : ∀ z ∈ xs, D z) : (net f g xs).map q = net f' g' (xs.map q) := by
  unfold net
  rw [List.length_map]
  exact to_map W hf hg h
theorem lat_min : Lat (fun _ => True) (· ≤ ·) min max where
  df := fun _ _ => trivial
  dg := fun _ _ => trivial
  fg := fun {a b} _ _ => by show min a b ≤ max a b; omega
  ua := fun {a b} _ _ => by show a ≤ max a b; omega
  ub := fun {a b} _ _ => by show b ≤ max a b; omega
  fl := fun {a b d} _ _ (h1 : a ≤ d) (h2 : b ≤ d) => by show min a b ≤ d; omega
  gl := fun {a b d} _ _ (h1 : a ≤ d) (h2 : b ≤ d) => by show max a b ≤ d; omega
  tr := fun h1 h2 => Int.le_trans h1 h2
  rf := fun a => Int.le_refl a
theorem at_perm : ∀ {xs : List Int} {k : Nat}, k + 1 < xs.length → (netAt min max xs k).Perm xs
  | x :: y :: xs, 0, _ => by
    rw [netAt_two]
    rcases Int.le_total x y with h | h
    · rw [Int.min_eq_left h, Int.max_eq_right h]
    · rw [Int.min_eq_right h, Int.max_eq_left h]
      exact List.Perm.swap x y xs
  | x :: xs, k + 1, hk => by
    rw [netAt_cons]
    exact (at_perm (Nat.lt_of_succ_lt_succ hk)).cons x
theorem row_perm {xs : List Int} : ∀ {k : Nat}, k < xs.length ∨ k = 0 → (netRow min max k xs).Perm xs
  | 0, _ => .refl _
  | k + 1, hk => by
    rw [netRow_succ]
    exact (at_perm (by rw [netRow_length]; omega)).trans (row_perm (by omega))
theorem to_perm {xs : List Int} : ∀ {i : Nat}, (netTo min max xs.length i xs).Perm xs
  | 0 => .refl _
  | i + 1 => by
    rw [netTo_succ]
    exact (row_perm (by rw [netTo_length]; omega)).trans to_perm
theorem net_perm (xs : List Int) : (net min max xs).Perm xs := to_perm
theorem net_sorted (xs : List Int) : (net min max xs).Pairwise (· ≤ ·) := net_pairwise lat_min fun _ _ => trivial
theorem net_is {xs ys : List Int} (hp : ys.Perm xs) (hs : ys.Pairwise (· ≤ ·)) : net min max xs = ys :=
  sorted_unique ((net_perm xs).trans hp.symm) (net_sorted xs) hs
theorem net_add (xs : List Int) (d : Int) : net min max (xs.map (· + d)) = (net min max xs).map (· + d) :=
  net_is ((net_perm xs).map _) ((net_sorted xs).map _ fun a b (h : a ≤ b) => by show a + d ≤ b + d; omega)
theorem net_sub (xs : List Int) (d : Int) : net min max (xs.map (d - ·)) = (net min max xs).reverse.map (d - ·) :=
  net_is (((net min max xs).reverse_perm.trans (net_perm xs)).map _) ((List.pairwise_reverse.mpr (net_sorted xs)).map _ fun a b (h : b ≤ a) => by show d - a ≤ d - b; omega)
end Mine
-- part MT
namespace Mine
theorem lcm_eq {a b : Int} (ha : 1 ≤ a) (hb : 1 ≤ b) : lcmI a b = (Int.lcm a b : Int) := by
  unfold lcmI
  have hg := gcd_pos (b := b) ha
  unfold gcdI at hg
  rw [Int.fdiv_eq_ediv_of_nonneg _ (by omega)]
  obtain ⟨x, rfl⟩ := Int.eq_ofNat_of_zero_le (show 0 ≤ a by omega)
  obtain ⟨y, rfl⟩ := Int.eq_ofNat_of_zero_le (show 0 ≤ b by omega)
  rw [Int.gcd_natCast_natCast, Int.lcm]
  simp only [Int.natAbs_natCast]
  rw [Nat.lcm, ← Int.natCast_mul, ← Int.natCast_ediv]
theorem lat_gcd : Lat (fun x => 1 ≤ x) (fun a b => a ∣ b) gcdI lcmI where
  df := fun ha _ => gcd_pos ha
  dg := fun ha hb => lcm_pos ha hb
  fg := fun {a b} ha hb => by
    rw [lcm_eq ha hb]
    exact Int.dvd_trans (Int.gcd_dvd_left a b) (Int.dvd_lcm_left a b)
  ua := fun {a b} ha hb => by rw [lcm_eq ha hb]; exact Int.dvd_lcm_left a b
  ub := fun {a b} ha hb => by rw [lcm_eq ha hb]; exact Int.dvd_lcm_right a b
  fl := fun {a b d} _ _ h1 _ => Int.dvd_trans (Int.gcd_dvd_left a b) h1
  gl := fun {a b d} ha hb h1 h2 => by rw [lcm_eq ha hb]; exact Int.coe_lcm_dvd h1 h2
  tr := Int.dvd_trans
  rf := Int.dvd_refl
theorem oft_spec {p : Nat} (hp : 2 ≤ p) : ∀ (n : Nat), 0 < n → ∀ k, p ^ k ∣ n ↔ k ≤ oft p n := by
  intro n
  induction n using Nat.strongRecOn with
  | ind n ih =>
    intro hn k
    by_cases h : n % p = 0
    · obtain ⟨m, rfl⟩ := Nat.dvd_of_mod_eq_zero h
      have hm : 0 < m := Nat.pos_of_ne_zero fun e => by subst e; simp at hn
      have hlt : m < p * m := by
        have := Nat.mul_lt_mul_of_pos_right (show 1 < p by omega) hm
        omega
      rw [oft_step hp hn h, Nat.mul_div_cancel_left m (by omega)]
      cases k with
      | zero => simp
      | succ k =>
        rw [Nat.pow_succ, Nat.mul_comm (p ^ k) p, Nat.mul_dvd_mul_iff_left (by omega), ih m hlt hm k]
        omega
    · rw [oft_stop h]
      cases k with
      | zero => simp
      | succ k =>
        constructor
        · intro hd
          exact absurd (Nat.mod_eq_zero_of_dvd (Nat.dvd_trans (Nat.dvd_mul_left p (p ^ k)) (by rw [← Nat.pow_succ]; exact hd))) h
        · intro hk; omega
theorem oft_uniq {p n k : Nat} (hp : 2 ≤ p) (hn : 0 < n) (h : ∀ j, p ^ j ∣ n ↔ j ≤ k) : oft p n = k := by
  have h1 := (oft_spec hp n hn k).mp ((h k).mpr (Nat.le_refl k))
  have h2 := (h (oft p n)).mp ((oft_spec hp n hn _).mpr (Nat.le_refl _))
  omega
theorem oft_gcd {p a b : Nat} (hp : 2 ≤ p) (ha : 0 < a) (hb : 0 < b) : oft p (Nat.gcd a b) = min (oft p a) (oft p b) :=
  oft_uniq hp (Nat.gcd_pos_of_pos_left b ha) fun j => by
    rw [Nat.dvd_gcd_iff, oft_spec hp a ha, oft_spec hp b hb]
    omega
/-- the primes of the law -/
def Prim (p : Nat) : Prop := p = 2 ∨ p = 3 ∨ p = 5 ∨ p = 7
theorem Prim.two {p : Nat} (h : Prim p) : 2 ≤ p := by rcases h with rfl | rfl | rfl | rfl <;> decide
theorem Prim.div {p g : Nat} (h : Prim p) (hg : g ∣ p) : g = 1 ∨ g = p := by
  rcases h with rfl | rfl | rfl | rfl
  all_goals
    have h1 := Nat.le_of_dvd (by decide) hg
    have h2 : g ≠ 0 := fun e => by subst e; exact absurd (Nat.eq_zero_of_zero_dvd hg) (by decide)
    revert hg
    have h3 : g = 1 ∨ g = 2 ∨ g = 3 ∨ g = 4 ∨ g = 5 ∨ g = 6 ∨ g = 7 := by omega
    rcases h3 with rfl | rfl | rfl | rfl | rfl | rfl | rfl <;> first | (intro _; omega) | (intro hg; exact absurd hg (by decide))
theorem Prim.or {p a b : Nat} (h : Prim p) (hd : p ∣ a * b) : p ∣ a ∨ p ∣ b := by
  rcases h.div (Nat.gcd_dvd_left p a) with e | e
  · right
    exact Nat.Coprime.dvd_of_dvd_mul_left e hd
  · left
    rw [← e]
    exact Nat.gcd_dvd_right p a
theorem oft_mul {p : Nat} (h : Prim p) : ∀ (a : Nat), 0 < a → ∀ b, 0 < b → oft p (a * b) = oft p a + oft p b := by
  have hp := h.two
  intro a
  induction a using Nat.strongRecOn with
  | ind a iha =>
    intro ha b hb
    by_cases hpa : a % p = 0
    · obtain ⟨m, rfl⟩ := Nat.dvd_of_mod_eq_zero hpa
      have hm : 0 < m := Nat.pos_of_ne_zero fun e => by subst e; simp at ha
      have hlt : m < p * m := by
        have := Nat.mul_lt_mul_of_pos_right (show 1 < p by omega) hm
        omega
      have e1 : oft p (p * m) = oft p m + 1 := by rw [oft_step hp ha hpa, Nat.mul_div_cancel_left m (by omega)]
      have e2 : oft p (p * m * b) = oft p (m * b) + 1 := by
        rw [Nat.mul_assoc, oft_step hp (Nat.mul_pos (by omega) (Nat.mul_pos hm hb)) (Nat.mul_mod_right p (m * b)), Nat.mul_div_cancel_left (m * b) (by omega)]
      rw [e1, e2, iha m hlt hm b hb]
      omega
    · rw [oft_stop hpa, Nat.zero_add]
      refine oft_uniq hp (Nat.mul_pos ha hb) fun j => ?_
      rw [← oft_spec hp b hb j]
      constructor
      · intro hd
        have hc : Nat.Coprime (p ^ j) a := by
          refine Nat.Coprime.pow_left j ?_
          rcases h.div (Nat.gcd_dvd_left p a) with e | e
          · exact e
          · exact absurd (Nat.mod_eq_zero_of_dvd (by rw [← e]; exact Nat.gcd_dvd_right p a)) hpa
        exact hc.dvd_of_dvd_mul_left hd
      · intro hd
        exact Nat.dvd_trans hd (Nat.dvd_mul_left b a)
theorem oft_lcm {p a b : Nat} (h : Prim p) (ha : 0 < a) (hb : 0 < b) : oft p (Nat.lcm a b) = max (oft p a) (oft p b) := by
  have hg := oft_gcd h.two ha hb
  have hm := oft_mul h a ha b hb
  rw [← Nat.gcd_mul_lcm a b, oft_mul h _ (Nat.gcd_pos_of_pos_left b ha) _ (Nat.lcm_pos ha hb)] at hm
  omega
/-- how often p divides z, as the program's function says it -/
def val (p : Nat) (z : Int) : Int := (oft p z.toNat : Int)
theorem val_gcd {p : Nat} (h : Prim p) {a b : Int} (ha : 1 ≤ a) (hb : 1 ≤ b) : val p (gcdI a b) = min (val p a) (val p b) := by
  obtain ⟨x, rfl⟩ := Int.eq_ofNat_of_zero_le (show 0 ≤ a by omega)
  obtain ⟨y, rfl⟩ := Int.eq_ofNat_of_zero_le (show 0 ≤ b by omega)
  unfold val gcdI
  rw [Int.gcd_natCast_natCast]
  simp only [Int.toNat_natCast]
  rw [oft_gcd h.two (by omega) (by omega)]
  omega
theorem val_lcm {p : Nat} (h : Prim p) {a b : Int} (ha : 1 ≤ a) (hb : 1 ≤ b) : val p (lcmI a b) = max (val p a) (val p b) := by
  rw [lcm_eq ha hb]
  obtain ⟨x, rfl⟩ := Int.eq_ofNat_of_zero_le (show 0 ≤ a by omega)
  obtain ⟨y, rfl⟩ := Int.eq_ofNat_of_zero_le (show 0 ≤ b by omega)
  unfold val
  rw [Int.lcm]
  simp only [Int.toNat_natCast, Int.natAbs_natCast]
  rw [oft_lcm h (by omega) (by omega)]
  omega
/-- what the law asks of the chain -/
structure ChainOk (ms : List Int) : Prop where
  len : (net gcdI lcmI ms).length = ms.length
  pos : ∀ z ∈ net gcdI lcmI ms, 1 ≤ z
  prod : prodI (net gcdI lcmI ms) = prodI ms
  dvd : (net gcdI lcmI ms).Pairwise (fun a b => a ∣ b)
  first : ∀ z ∈ ms, (net gcdI lcmI ms).getD 0 0 ∣ z
  last : ∀ z ∈ ms, z ∣ (net gcdI lcmI ms).getD (ms.length - 1) 0
  often : ∀ p, Prim p → ∀ ys : List Int, ys.Perm (ms.map (val p)) → ys.Pairwise (· ≤ ·) → (net gcdI lcmI ms).map (val p) = ys
theorem chain_ok {ms : List Int} (h : ∀ z ∈ ms, 1 ≤ z) : ChainOk ms := by
  have hG : Good (prodI ms) (net gcdI lcmI ms) := good_to ⟨h, rfl⟩
  have hlen : (net gcdI lcmI ms).length = ms.length := netTo_length ..
  have hpw := net_pairwise lat_gcd h
  refine ⟨hlen, hG.1, hG.2, hpw, ?_, ?_, ?_⟩
  · refine to_inv lat_gcd (T := fun z => (net gcdI lcmI ms).getD 0 0 ∣ z) (fun {a b} _ _ h1 _ => ⟨Int.dvd_trans h1 (Int.gcd_dvd_left a b), Int.dvd_trans h1 (Int.gcd_dvd_right a b)⟩) (i := ms.length - 1) h ?_
    show ∀ z ∈ net gcdI lcmI ms, _
    intro z hz
    cases hc : net gcdI lcmI ms with
    | nil => rw [hc] at hz; exact nomatch hz
    | cons x r =>
      rw [hc] at hz hpw
      show x ∣ z
      rcases List.mem_cons.mp hz with rfl | hz
      · exact Int.dvd_refl _
      · exact (List.pairwise_cons.mp hpw).1 z hz
  · refine to_inv lat_gcd (T := fun z => z ∣ (net gcdI lcmI ms).getD (ms.length - 1) 0) (fun {a b} ha hb _ h2 => ⟨Int.dvd_trans (lat_gcd.ua ha hb) h2, Int.dvd_trans (lat_gcd.ub ha hb) h2⟩) (i := ms.length - 1) h ?_
    show ∀ z ∈ net gcdI lcmI ms, _
    intro z hz
    obtain ⟨j, hj, rfl⟩ := List.mem_iff_getElem.mp hz
    have hk : ms.length - 1 < (net gcdI lcmI ms).length := by omega
    rw [List.getD_eq_getElem?_getD, List.getElem?_eq_getElem hk]
    show (net gcdI lcmI ms)[j] ∣ (net gcdI lcmI ms)[ms.length - 1]
    rcases Nat.lt_or_ge j (ms.length - 1) with h1 | h1
    · exact List.pairwise_iff_getElem.mp hpw j (ms.length - 1) hj hk h1
    · have e : j = ms.length - 1 := by omega
      subst e
      exact Int.dvd_refl _
  · intro p hp ys hperm hs
    rw [net_map (f' := min) (g' := max) lat_gcd (fun ha hb => val_gcd hp ha hb) (fun ha hb => val_lcm hp ha hb) h]
    exact net_is hperm hs
end Mine
-- part MP
namespace Mine
section
local macro_rules | `(tactic| walk_at "call ref") => `(tactic| (k_here; k_dflt (refine' tells_net (ordered_call _ _ _ _ _ _ _ _ ?qi ?ql) ?k1 ?k2 ?k3 ?k4 ?k5 ?kK ?kd ?ku ?hm ?_; (case k1 => k_asm); (case k2 => k_asm); (case k3 => k_asm); (case k4 => first | k_asm | exact cb_drop (by k_asm) drop1 | exact cb_drop (by k_asm) drop2); (case k5 => k_asm); (case kK => first | exact rfl | assumption); (case kd => first | omega | ktr_room | ((try simp only [depth_under_make, depth_deeper]); (try dsimp only [ktrTop]); omega)); (case ku => first | omega | ktr_units | ((try simp only [units_under_make, units_deeper]); (try dsimp only [ktrTop]); omega)); (case hm => k_mem); (case qi => l_ints); (case ql => first | assumption | exact Nat.le_trans (Nat.le_of_eq (List.length_map _)) (by assumption) | l_fact)); intro D9 ws9 c9 h9 tk9 hi9 hl9 F9 N9; (try simp only [AllLt, and_true] at hl9); (try dsimp only); (try k_fold); walk_say "CONTRACT ordered_call"))
local macro_rules | `(tactic| walk_at "call ref") => `(tactic| (k_here; k_dflt (refine' tells_int (of_add _ _ _ _ _ _ _ _ _) ?k1 ?k2 ?k3 ?k4 ?k5 ?kK ?kd ?ku ?_; (case k1 => k_asm); (case k2 => k_asm); (case k3 => k_asm); (case k4 => first | k_asm | exact cb_drop (by k_asm) drop1 | exact cb_drop (by k_asm) drop2); (case k5 => k_asm); (case kK => first | exact rfl | assumption); (case kd => first | omega | ktr_room | ((try simp only [depth_under_make, depth_deeper]); (try dsimp only [ktrTop]); omega)); (case ku => first | omega | ktr_units | ((try simp only [units_under_make, units_deeper]); (try dsimp only [ktrTop]); omega))); intro t9 h9 tk9 F9 N9; (try k_sweep); (try dsimp only); (try k_fold); walk_say "CONTRACT of_add"))
local macro_rules | `(tactic| walk_at "call ref") => `(tactic| (k_here; k_dflt (refine' tells_int (of_sub _ _ _ _ _ _ _ _ _) ?k1 ?k2 ?k3 ?k4 ?k5 ?kK ?kd ?ku ?_; (case k1 => k_asm); (case k2 => k_asm); (case k3 => k_asm); (case k4 => first | k_asm | exact cb_drop (by k_asm) drop1 | exact cb_drop (by k_asm) drop2); (case k5 => k_asm); (case kK => first | exact rfl | assumption); (case kd => first | omega | ktr_room | ((try simp only [depth_under_make, depth_deeper]); (try dsimp only [ktrTop]); omega)); (case ku => first | omega | ktr_units | ((try simp only [units_under_make, units_deeper]); (try dsimp only [ktrTop]); omega))); intro t9 h9 tk9 F9 N9; (try k_sweep); (try dsimp only); (try k_fold); walk_say "CONTRACT of_sub"))
local macro_rules | `(tactic| walk_at "pyIter ref") => `(tactic| ((with_reducible show wpAny _ _ (pyIter (Value.ref _)) _ _ _); refine halt ?_; walk_say "HALT"))
local macro_rules | `(tactic| walk_at "exec Assign cons ListComp") => `(tactic| ((with_reducible show wpAny _ _ (exec _ _) _ _ _); refine halt ?_; walk_say "HALT"))
local macro_rules | `(tactic| walk_at "CompSrc") => `(tactic| (refine halt ?_; walk_say "HALT"))
local macro_rules | `(tactic| walk_at "eval ListComp") => `(tactic| ((with_reducible show wpAny _ _ (eval _ _) _ _ _); refine halt ?_; walk_say "HALT"))
local macro_rules | `(tactic| walk_at "execs cons") => `(tactic| ((with_reducible show wpAny _ _ (execs (Stmt.Assign [Expr.Name (Str.ofString "chain") _] _ _ :: _) _) _ _ _); refine halt ?_; walk_say "HALT"))
theorem net_length (f g : Int → Int → Int) (xs : List Int) : (net f g xs).length = xs.length := netTo_length ..
theorem news_sub {h₀ h : Heap} {L : Addr} {l l' : List (Addr × Obj)} (N : News h₀ L h l) (hs : ∀ p ∈ l', p ∈ l) : News h₀ L h l' := fun p hp => N p (hs p hp)
theorem krv_len {vs : List Value} {ns : List Int} (h : IntsAre vs ns) (hl : ns.length ≤ 1000) : vs.toArray.size ≤ sizeLine := by
  rw [List.size_toArray, h.length, sizeLine_eq]; omega
local macro_rules | `(tactic| walk_at "subscriptTail Name Slice ref ref") => `(tactic| (k_here; (with_reducible show wpAny _ _ (subscriptTail _ (PySem.Expr.Slice none none (some _) _) (Value.ref _) (Value.ref _)) _ _ _); k_dflt (refine' krv_ints ?F ?N ?l ?k ?i ?_ ?s ?t ?z; (case F => k_asm); (case N => k_asm); (case l => kmk_list); (case k => exact IsPart.int _ _); (case i => l_ints); (case s => with_unfolding_all rfl); (case t => kmk_pure); (case z => exact krv_len (by l_ints) (by rw [net_length]; omega))); intro D' ws' h' F' N' l1 hI' hC'; (try k_lt l1); (try k_sweep)))
theorem tail5 (prog : Program) (w : World) (p : Program) (loose : List Str) (mean : ExcName → Option Value) (mg mb : Str → Option Value) (dp un : Nat) (gd : Option (List Code)) (fa : Addr) (cdv : Value) (outer : List Env) (A₀ : Around) (base h₀ : Heap) (L : Addr) (m : Str → Option Value) (s : Shared) (Q : Flow → Shared → Prop) (E : Value → Shared → Prop)
    (rl ml nm : Addr) (row made : List Value) (ns ms : List Int) (nr nd : Nat) (oP oF oN : Obj) (R : List (Addr × Obj)) (further : Int) (tf : Tok)
    (B : Below A₀ base outer h₀) (F : Fr h₀ L s.heap (fun z => if z = Str.ofString "made" then some (.ref ml) else if z = Str.ofString "row" then some (.ref rl) else m z)) (X : (hd.heap_39 w.params).In h₀) (N : News h₀ L s.heap ((ml, listOf made.toArray nd) :: (rl, listOf row.toArray nr) :: (L + 1 + 1 + 1 + 1, oP) :: (L + 1 + 1 + 1, oF) :: (L + 1 + 1, oN) :: R)) (T : Top p loose mean mg mb h₀)
    (hd : dp + 20 < recursionLimit) (hu : un + 160 < cLine) (hrow : IntsAre row ns) (hns : ns.length ≤ 6)
    (d1 : oN.data = .cell (some (.ref nm))) (d2 : oF.data = .cell (some (.int further tf)))
    (hcont : ∀ m' h' tk', m' (Str.ofString "made") = some (.ref ml) → Fr h₀ L h' m' → News h₀ L h' ((ml, listOf made.toArray nd) :: (L + 1 + 1 + 1 + 1, oP) :: (L + 1 + 1, oN) :: R) →
      wpAny (model prog w) (ktrTop dp un gd (Str.ofString "law") (scopeOf lawDef) L fa cdv (cellsFrom (L + 1) (scopeOf lawDef).names []) outer) (execs ((bodyOf lawDef).drop 9) (envOfC (Str.ofString "law") (scopeOf lawDef) L fa cdv)) Q E { s with heap := h', toks := tk' }) :
    wpAny (model prog w) (ktrTop dp un gd (Str.ofString "law") (scopeOf lawDef) L fa cdv (cellsFrom (L + 1) (scopeOf lawDef).names []) outer) (execs ((bodyOf lawDef).drop 5) (envOfC (Str.ofString "law") (scopeOf lawDef) L fa cdv)) Q E s := by
  revert hcont
  delta lawDef
  delta PySem.Challenge.pw_sa0147_01
  dsimp only [bodyOf, scopeOf, List.drop, List.headD]
  intro hcont
  k_steps
  all_goals try (exact absurd (net_is (by assumption) (by assumption)) (by assumption))
  unfold Halt
  k_dflt (refine LCg.ListComp_U (F₀ := by k_asm) (by rfl) (by decide) (by rfl) (by decide) (by rfl) ?_)
  k_steps
  unfold Halt
  k_dflt (refine comp_ints (fun z => z + further) (by rfl) (by assumption) (by assumption) (by k_mem) (by l_ints) (by omega) ?_ ?_)
  · intro z t I oI C oC D m₂ ys h tk E' hz hC hx F N
    k_steps
    exact ⟨_, _, _, rfl, rfl, by assumption, by assumption⟩
  intro q rs hrs
  k_steps
  unfold Halt
  k_dflt (refine LCg.ListComp_U (F₀ := by k_asm) (by rfl) (by decide) (by rfl) (by decide) (by rfl) ?_)
  k_steps
  unfold Halt
  k_dflt (refine comp_ints (fun z => z + further) (by rfl) (by assumption) (by assumption) (by k_mem) (by l_ints) (by rw [net_length]; omega) ?_ ?_)
  · intro z t I oI C oC D m₂ ys h tk E' hz hC hx F N
    k_steps
    exact ⟨_, _, _, rfl, rfl, by assumption, by assumption⟩
  intro q rs hrs
  k_steps
  all_goals try (exact absurd (net_add _ _) (by assumption))
  unfold Halt
  k_dflt (refine LCg.ListComp_U (F₀ := by k_asm) (by rfl) (by decide) (by rfl) (by decide) (by rfl) ?_)
  k_steps
  unfold Halt
  k_dflt (refine comp_ints (fun z => further - z) (by rfl) (by assumption) (by assumption) (by k_mem) (by l_ints) (by omega) ?_ ?_)
  · intro z t I oI C oC D m₂ ys h tk E' hz hC hx F N
    k_steps
    exact ⟨_, _, _, rfl, rfl, by assumption, by assumption⟩
  intro q rs hrs
  k_steps
  unfold Halt
  k_dflt (refine LCg.ListComp_U (F₀ := by k_asm) (by rfl) (by decide) (by rfl) (by decide) (by rfl) ?_)
  k_steps
  unfold Halt
  k_dflt (refine comp_ints (fun z => further - z) (by rfl) (by assumption) (by assumption) (by k_mem) (by l_ints) (by rw [List.length_reverse, net_length]; omega) ?_ ?_)
  · intro z t I oI C oC D m₂ ys h tk E' hz hC hx F N
    k_steps
    exact ⟨_, _, _, rfl, rfl, by assumption, by assumption⟩
  intro q rs hrs
  k_steps
  all_goals try (exact absurd (net_sub _ _) (by assumption))
  unfold Halt
  refine hcont _ _ _ ?_ (by assumption) (news_sub (by assumption) ?_)
  · rfl
  · intro p hp
    simp only [List.mem_cons] at hp ⊢
    rcases hp with h | h | h | h <;> simp only [h, true_or, or_true]
end
end Mine
-- part MR
namespace Mine
section
variable {prog : Program} {w : World} {A : Around} {E : Value → Shared → Prop} {s : Shared} {env : Env} {h₀ : Heap} {x : Str} {body : List Stmt} {Q : Flow → Shared → Prop}
/-- the end of one turn that carries two ints in two names -/
def TwoPost (h₀ : Heap) (L : Addr) (s₁ : Shared) (x n1 n2 : Str) (m₀ : Str → Option Value) (news : List (Addr × Obj)) (P : Int → Int → Prop) (f : Flow) (s₂ : Shared) : Prop :=
  f = .next ∧ ∃ h' tk m' a ta b tb, s₂ = { s₁ with heap := h', toks := tk } ∧ Fr h₀ L h' m' ∧ m' n1 = some (.int a ta) ∧ m' n2 = some (.int b tb) ∧ (∀ z, z ≠ x → z ≠ n1 → z ≠ n2 → m' z = m₀ z) ∧ News h₀ L h' news ∧ P a b
abbrev twoPs (n1 n2 : Str) (c : Int × Tok × Int × Tok) : List (Str × Value) := [(n1, .int c.1 c.2.1), (n2, .int c.2.2.1 c.2.2.2)]
theorem two_back {L : Addr} {s₁ s₂ : Shared} {n1 n2 : Str} {m₀ : Str → Option Value} {news own : List (Addr × Obj)} {P : List Int → Int × Tok × Int × Tok → Prop} {P' : Int → Int → Prop} {pre : List Int} {f : Flow} {adr : List Addr}
    (ha : news.map (·.1) = adr) (h : TwoPost h₀ L s₁ x n1 n2 m₀ (news ++ own) P' f s₂) (hP : ∀ a ta b tb, P' a b → P pre (a, ta, b, tb)) :
    InvPostN h₀ L (KstS (fun _ : Int × Tok × Int × Tok => news) (twoPs n1 n2) (fun _ => True) x [] m₀ P pre) own adr s₁ Q f s₂ := by
  obtain ⟨rfl, h', tk, m', a, ta, b, tb, rfl, F', e1, e2, hm, N', hp⟩ := h
  refine InvEndN.intro F' N' (nx := news) ⟨(a, ta, b, tb), rfl, trivial, ?_, fun z hz h1 _ => hm z hz (h1 _ (.head _)) (h1 _ (.tail _ (.head _))), hP _ _ _ _ hp⟩ ha (fun p hp => List.mem_append_left _ hp) fun p hp => List.mem_append_right _ hp
  intro p hp
  simp only [twoPs, List.mem_cons, List.not_mem_nil, or_false] at hp
  rcases hp with rfl | rfl
  · exact e1
  · exact e2
theorem two_up {r : Addr} {news : List (Addr × Obj)} {m₀ : Str → Option Value} {b₀ : Int} {t₀ u₀ v₀ : Tok} (n1 n2 : Str) {a1 a2 : Int} {t1 t2 : Tok} (k : Nat) (P : Nat → Int → Int → Prop)
    (hh : A.handled = none) (hr : IsRange s.heap r 0 b₀ 1 t₀ u₀ v₀) (hb : b₀ = k) (hk : k ≤ 100) (F : Fr h₀ env.locals s.heap m₀) (N : News h₀ env.locals s.heap news) (e1 : m₀ n1 = some (.int a1 t1)) (e2 : m₀ n2 = some (.int a2 t2)) (hp : P 0 a1 a2)
    (turn : ∀ (i : Nat) a ta b tb t h tk own, i < k → P i a b →
      Fr h₀ env.locals h (fun y => if y = x then some (.int (i : Int) t) else if y = n1 then some (.int a ta) else if y = n2 then some (.int b tb) else m₀ y) → News h₀ env.locals h (news ++ own) →
      wpAny (model prog w) A (execs body env) (TwoPost h₀ env.locals { s with heap := h, toks := tk } x n1 n2 m₀ (news ++ own) (P (i + 1))) E { s with heap := h, toks := tk })
    (done : ∀ a ta b tb (u : Str → Option Value) h tk, P k a b → Fr h₀ env.locals h (fun y => if y = x then u y else if y = n1 then some (.int a ta) else if y = n2 then some (.int b tb) else m₀ y) → News h₀ env.locals h news → Q .next { s with heap := h, toks := tk }) :
    wpAny (model prog w) A (pyIter (.ref r)) (fun it s₂ => LoopAtV prog w A h₀ env x body Q E it s₂) E s := by
  have e3 : Builtin.Range.rangeSize 0 b₀ 1 = (k : Int) := by
    unfold Builtin.Range.rangeSize
    simp only [show ((1 : Int) > 0) by decide, if_true, Int.ediv_one]
    split <;> omega
  have e4 : Builtin.Range.small 0 b₀ 1 = true := by
    unfold Builtin.Range.small
    rw [e3]
    simp only [Builtin.Range.rangeFitsLong, Bool.and_eq_true, Bool.or_eq_true, decide_eq_true_eq, beq_iff_eq, show ((1 : Int) > 0) by decide, if_true]
    omega
  refine kst_range (fun _ : Int × Tok × Int × Tok => news) (twoPs n1 n2) (fun _ => True) [] (fun pre c => P pre.length c.1 c.2.2.1) (a1, t1, a2, t2) hh hr e4 e3 F N trivial ?_ hp ?_ ?_
  · intro p hp
    simp only [twoPs, List.mem_cons, List.not_mem_nil, or_false] at hp
    rcases hp with rfl | rfl
    · exact e1
    · exact e2
  · rintro ⟨a, ta, b, tb⟩ pre j t u h tk own hj hlt hoff hf hp' F₁ N₁
    have hj' : j = (pre.length : Int) := by omega
    rw [hj'] at F₁
    refine wpAny_mono (turn pre.length a ta b tb t h tk own hlt hp' F₁ N₁) (fun f s₂ p => ?_) fun _ _ e => e
    exact two_back rfl p fun _ _ _ _ q => by simpa using q
  · rintro ⟨a, ta, b, tb⟩ u h tk hf hp' F₁ N₁
    rw [rangeKs_length] at hp'
    exact done a ta b tb u h tk hp' F₁ N₁
end
end Mine
-- part MV
namespace Mine
theorem prodI_append : ∀ (xs ys : List Int), prodI (xs ++ ys) = prodI xs * prodI ys
  | [], ys => by show prodI ys = 1 * prodI ys; rw [Int.one_mul]
  | x :: r, ys => by show x * prodI (r ++ ys) = x * prodI r * prodI ys; rw [prodI_append, Int.mul_assoc]
theorem prod_take_le {xs : List Int} (h : ∀ x ∈ xs, 1 ≤ x) (i : Nat) : 1 ≤ prodI (xs.take i) ∧ prodI (xs.take i) ≤ prodI xs := by
  have h1 := prod_pos (xs := xs.take i) fun x hx => h x (List.mem_of_mem_take hx)
  have h2 := prod_pos (xs := xs.drop i) fun x hx => h x (List.mem_of_mem_drop hx)
  have h3 : prodI xs = prodI (xs.take i) * prodI (xs.drop i) := by rw [← prodI_append, List.take_append_drop]
  refine ⟨h1, ?_⟩
  have h4 := Int.mul_le_mul_of_nonneg_left h2 (show 0 ≤ prodI (xs.take i) by omega)
  rw [Int.mul_one] at h4
  omega
theorem prod_take_succ {xs : List Int} {i : Nat} (h : i < xs.length) : prodI (xs.take (i + 1)) = prodI (xs.take i) * xs.getD i 0 := by
  have e : xs[i]? = some (xs.getD i 0) := by rw [List.getD_eq_getElem?_getD, List.getElem?_eq_getElem h]; rfl
  rw [List.take_add_one, e, prodI_append]
  show _ * (xs.getD i 0 * 1) = _
  rw [Int.mul_one]
theorem turn_mul {xs : List Int} {i : Nat} (h : ∀ x ∈ xs, 1 ≤ x) (hC : prodI xs < 2 ^ 200) (hi : i < xs.length) : IntMulOk (prodI (xs.take i)) (xs.getD ((i : Int)).toNat 0) := by
  rw [Int.toNat_natCast]
  have h1 := prod_take_le h i
  have h2 := le_prod h _ (getD_mem hi)
  have h3 := h _ (getD_mem hi)
  exact mul_ok (by omega) (by omega) (by omega) (by omega)
structure TurnOk (ms : List Int) (i : Nat) : Prop where
  f1 : ¬ (net gcdI lcmI ms).getD ((i : Int)).toNat 0 < 1
  f2 : (net gcdI lcmI ms).getD (Int.toNat 0) 0 ≠ 0
  f3 : (ms.getD ((i : Int)).toNat 0).fmod ((net gcdI lcmI ms).getD (Int.toNat 0) 0) = 0
  f4 : ms.getD ((i : Int)).toNat 0 ≠ 0
  f5 : ((net gcdI lcmI ms).getD (-1 + ((net gcdI lcmI ms).length : Int)).toNat 0).fmod (ms.getD ((i : Int)).toNat 0) = 0
  f6 : (net gcdI lcmI ms).getD ((i : Int) - 1).toNat 0 ≠ 0
  f7 : ((net gcdI lcmI ms).getD ((i : Int)).toNat 0).fmod ((net gcdI lcmI ms).getD ((i : Int) - 1).toNat 0) = 0
theorem turn_ok {ms : List Int} {i : Nat} (K : ChainOk ms) (hms : ∀ z ∈ ms, 1 ≤ z) (hi : i < ms.length) : TurnOk ms i := by
  have hk : i < (net gcdI lcmI ms).length := by rw [K.len]; exact hi
  have e1 : ((i : Int)).toNat = i := Int.toNat_natCast i
  have e2 : ((i : Int) - 1).toNat = i - 1 := by omega
  have e3 : (-1 + ((net gcdI lcmI ms).length : Int)).toNat = ms.length - 1 := by rw [K.len]; omega
  have p1 := K.pos _ (getD_mem hk)
  have p2 := hms _ (getD_mem hi)
  have p3 := K.pos _ (getD_mem (show 0 < (net gcdI lcmI ms).length by omega))
  have p4 := K.pos _ (getD_mem (show i - 1 < (net gcdI lcmI ms).length by omega))
  refine ⟨?_, ?_, ?_, ?_, ?_, ?_, ?_⟩
  · rw [e1]; omega
  · show (net gcdI lcmI ms).getD 0 0 ≠ 0
    omega
  · rw [e1]
    exact Int.fmod_eq_zero_of_dvd (K.first _ (getD_mem hi))
  · rw [e1]; omega
  · rw [e1, e3]
    exact Int.fmod_eq_zero_of_dvd (K.last _ (getD_mem hi))
  · rw [e2]; omega
  · rw [e1, e2]
    refine Int.fmod_eq_zero_of_dvd ?_
    rcases Nat.eq_zero_or_pos i with rfl | h
    · exact Int.dvd_refl _
    · have h1 : i - 1 < (net gcdI lcmI ms).length := by omega
      rw [List.getD_eq_getElem?_getD, List.getD_eq_getElem?_getD, List.getElem?_eq_getElem hk, List.getElem?_eq_getElem h1]
      exact List.pairwise_iff_getElem.mp K.dvd (i - 1) i h1 hk (by omega)
end Mine
-- part MU
namespace Mine
section
local macro_rules | `(tactic| walk_at "call ref") => `(tactic| (k_here; k_dflt (refine' tells_net (chained_call _ _ _ _ _ _ _ _ ?qi ?ql ?qg) ?k1 ?k2 ?k3 ?k4 ?k5 ?kK ?kd ?ku ?hm ?_; (case k1 => k_asm); (case k2 => k_asm); (case k3 => k_asm); (case k4 => first | k_asm | exact cb_drop (by k_asm) drop1 | exact cb_drop (by k_asm) drop2); (case k5 => k_asm); (case kK => first | exact rfl | assumption); (case kd => first | omega | ktr_room | ((try simp only [depth_under_make, depth_deeper]); (try dsimp only [ktrTop]); omega)); (case ku => first | omega | ktr_units | ((try simp only [units_under_make, units_deeper]); (try dsimp only [ktrTop]); omega)); (case hm => k_mem); (case qi => l_ints); (case ql => assumption); (case qg => assumption)); intro D9 ws9 c9 h9 tk9 hi9 hl9 F9 N9; (try simp only [AllLt, and_true] at hl9); (try dsimp only); (try k_fold); walk_say "CONTRACT chained_call"))
local macro_rules | `(tactic| walk_at "pyIter ref") => `(tactic| ((with_reducible show wpAny _ _ (pyIter (Value.ref _)) _ _ _); refine halt ?_; walk_say "HALT"))
local macro_rules | `(tactic| walk_at "execs cons") => `(tactic| ((with_reducible show wpAny _ _ (execs (Stmt.For (Expr.Name (Str.ofString "prime") _) _ _ _ _ :: _) _) _ _ _); refine halt ?_; walk_say "HALT"))
local macro_rules | `(tactic| walk_at "exec For Name Call cons nil") => `(tactic| (k_here; (rename Fr _ _ _ _ => lF'); (with_unfolding_all refine' For_invVF lF' (hx := ?k1) (hp := ?k2) (h := ?_) (hE := ?k3); (case k1 => exact rfl); (case k2 => exact rfl); (case k3 => assumption); k_whole); walk_say "FOR"))
theorem news3 {h₀ h : Heap} {L : Addr} {p q r : Addr × Obj} {l : List (Addr × Obj)} (N : News h₀ L h (p :: q :: r :: l)) : News h₀ L h (p :: q :: r :: []) := news_sub N fun x hx => by
  simp only [List.mem_cons, List.not_mem_nil, or_false] at hx ⊢
  rcases hx with h | h | h <;> simp only [h, true_or, or_true]
theorem tail9 (prog : Program) (w : World) (p : Program) (loose : List Str) (mean : ExcName → Option Value) (mg mb : Str → Option Value) (dp un : Nat) (gd : Option (List Code)) (fa : Addr) (cdv : Value) (outer : List Env) (A₀ : Around) (base h₀ : Heap) (L : Addr) (m : Str → Option Value) (s : Shared) (Q : Flow → Shared → Prop) (E : Value → Shared → Prop)
    (ml nm : Addr) (made : List Value) (ms : List Int) (nd : Nat) (oP oN : Obj) (R : List (Addr × Obj))
    (B : Below A₀ base outer h₀) (F : Fr h₀ L s.heap (fun z => if z = Str.ofString "made" then some (.ref ml) else m z)) (X : (hd.heap_39 w.params).In h₀) (N : News h₀ L s.heap ((ml, listOf made.toArray nd) :: (L + 1 + 1 + 1 + 1, oP) :: (L + 1 + 1, oN) :: R)) (T : Top p loose mean mg mb h₀)
    (hd : dp + 20 < recursionLimit) (hu : un + 160 < cLine) (hmade : IntsAre made ms) (hml : ms.length ≤ 6) (hms : ∀ x ∈ ms, 1 ≤ x ∧ x ≤ 529200)
    (hE : PassesOwn (model prog w) (ktrTop dp un gd (Str.ofString "law") (scopeOf lawDef) L fa cdv (cellsFrom (L + 1) (scopeOf lawDef).names []) outer) (envOfC (Str.ofString "law") (scopeOf lawDef) L fa cdv) E)
    (d1 : oN.data = .cell (some (.ref nm)))
    (hcont : ∀ (m' : Str → Option Value) cl (ch : List Value) c h' tk', IntsAre ch (net gcdI lcmI ms) → cl ≠ L + 1 + 1 + 1 + 1 → m' (Str.ofString "chain") = some (.ref cl) → m' (Str.ofString "made") = some (.ref ml) → Fr h₀ L h' m' → News h₀ L h' ((cl, listOf ch.toArray c) :: (ml, listOf made.toArray nd) :: (L + 1 + 1 + 1 + 1, oP) :: []) →
      wpAny (model prog w) (ktrTop dp un gd (Str.ofString "law") (scopeOf lawDef) L fa cdv (cellsFrom (L + 1) (scopeOf lawDef).names []) outer) (execs ((bodyOf lawDef).drop 14) (envOfC (Str.ofString "law") (scopeOf lawDef) L fa cdv)) Q E { s with heap := h', toks := tk' }) :
    wpAny (model prog w) (ktrTop dp un gd (Str.ofString "law") (scopeOf lawDef) L fa cdv (cellsFrom (L + 1) (scopeOf lawDef).names []) outer) (execs ((bodyOf lawDef).drop 9) (envOfC (Str.ofString "law") (scopeOf lawDef) L fa cdv)) Q E s := by
  have K := chain_ok fun z hz => (hms z hz).1
  have hC := (good_start hms hml).2
  have hC' : prodI (net gcdI lcmI ms) < 2 ^ 200 := by rw [K.prod]; exact hC
  revert hcont hE
  delta lawDef
  delta PySem.Challenge.pw_sa0147_01
  dsimp only [bodyOf, scopeOf, List.drop, List.headD]
  intro hE hcont
  k_steps
  unfold Halt
  with_unfolding_all refine two_up (Str.ofString "before") (Str.ofString "behind") ms.length (fun i a b => a = prodI (ms.take i) ∧ b = prodI ((net gcdI lcmI ms).take i)) rfl (by assumption) rfl (by omega) (by assumption) (by assumption) (by rfl) (by rfl) ⟨rfl, rfl⟩ ?_ ?_
  · rintro i a ta b tb t h tk own hik ⟨rfl, rfl⟩ F1 N1
    have hq1 := turn_mul (i := i) (fun z hz => (hms z hz).1) hC hik
    have hq2 := turn_mul (i := i) K.pos hC' (by rw [K.len]; exact hik)
    have hs1 : prodI (ms.take (i + 1)) = prodI (ms.take i) * ms.getD ((i : Int)).toNat 0 := by rw [Int.toNat_natCast]; exact prod_take_succ hik
    have hs2 : prodI ((net gcdI lcmI ms).take (i + 1)) = prodI ((net gcdI lcmI ms).take i) * (net gcdI lcmI ms).getD ((i : Int)).toNat 0 := by rw [Int.toNat_natCast]; exact prod_take_succ (by rw [K.len]; exact hik)
    generalize prodI (ms.take i) = a at *
    generalize prodI ((net gcdI lcmI ms).take i) = b at *
    have hkl := K.len
    obtain ⟨f1, f2, f3, f4, f5, f6, f7⟩ := turn_ok K (fun z hz => (hms z hz).1) hik
    k_with "mul" => assumption
    (try k_fold)
    k_steps
    all_goals try contradiction
    all_goals
      refine ⟨rfl, _, _, _, _, _, _, _, rfl, by assumption, rfl, rfl, ?_, by assumption, ⟨hs1.symm, hs2.symm⟩⟩
      intro z h1 h2 h3
      simp only [if_neg h1, if_neg h2, if_neg h3]
  · rintro a ta b tb u h tk ⟨hP1, hP2⟩ F1 N1
    have hab : a = b := by rw [hP1, hP2, List.take_length, List.take_of_length_le (Nat.le_of_eq K.len), K.prod]
    dsimp only
    k_steps
    all_goals try contradiction
    unfold Halt
    refine hcont _ _ _ _ _ _ (by assumption) ?_ ?_ ?_ (by assumption) (news3 (by assumption))
    · refine Nat.ne_of_gt ?_
      omega
    · rfl
    · rfl
end
end Mine
-- part MX
namespace Mine
def turnOf : Stmt → List Stmt
  | .For _ _ b _ _ => b
  | _ => []
def primeBody : List Stmt := turnOf (((bodyOf lawDef).drop 14).headD (.Pass ⟨0, 0, 0, 0⟩))
section
local macro_rules | `(tactic| walk_at "call ref") => `(tactic| (k_here; k_dflt (refine' tells_int (often_call _ _ _ _ _ _ ?q1 ?q2 ?q3 _) ?k1 ?k2 ?k3 ?k4 ?k5 ?kK ?kd ?ku ?_; (case k1 => k_asm); (case k2 => k_asm); (case k3 => k_asm); (case k4 => first | k_asm | exact cb_drop (by k_asm) drop1 | exact cb_drop (by k_asm) drop2); (case k5 => k_asm); (case kK => first | exact rfl | assumption); (case kd => first | omega | ktr_room | ((try simp only [depth_under_make, depth_deeper]); (try dsimp only [ktrTop]); omega)); (case ku => first | omega | ktr_units | ((try simp only [units_under_make, units_deeper]); (try dsimp only [ktrTop]); omega)); (case q1 => assumption); (case q2 => assumption); (case q3 => assumption)); intro t9 h9 tk9 F9 N9; (try k_sweep); (try dsimp only); (try k_fold); walk_say "CONTRACT often_call"))
local macro_rules | `(tactic| walk_at "CompSrc") => `(tactic| (refine halt ?_; walk_say "HALT"))
local macro_rules | `(tactic| walk_at "eval ListComp") => `(tactic| ((with_reducible show wpAny _ _ (eval _ _) _ _ _); refine halt ?_; walk_say "HALT"))
theorem turn14 (prog : Program) (w : World) (p : Program) (loose : List Str) (mean : ExcName → Option Value) (mg mb : Str → Option Value) (dp un : Nat) (gd : Option (List Code)) (fa : Addr) (cdv : Value) (outer : List Env) (A₀ : Around) (base h₀ : Heap) (L : Addr) (m : Str → Option Value) (s : Shared) (Q : Flow → Shared → Prop) (E : Value → Shared → Prop)
    (ml cl : Addr) (made ch : List Value) (ms : List Int) (nd c : Nat) (oP : Obj) (rest : List (Addr × Obj)) (q : Int) (t : Tok)
    (B : Below A₀ base outer h₀) (F : Fr h₀ L s.heap (fun z => if z = Str.ofString "chain" then some (.ref cl) else if z = Str.ofString "made" then some (.ref ml) else m z)) (X : (hd.heap_39 w.params).In h₀) (N : News h₀ L s.heap ((cl, listOf ch.toArray c) :: (ml, listOf made.toArray nd) :: (L + 1 + 1 + 1 + 1, oP) :: rest)) (T : Top p loose mean mg mb h₀)
    (hd : dp + 20 < recursionLimit) (hu : un + 160 < cLine) (hmade : IntsAre made ms) (hml : ms.length ≤ 6) (hms : ∀ x ∈ ms, 1 ≤ x ∧ x ≤ 529200)
    (d1 : oP.data = .cell (some (.int q t))) (hch : IntsAre ch (net gcdI lcmI ms)) (hq : Prim q.toNat) (hq2 : 2 ≤ q) (hq3 : q.natAbs.log2 < 9000)
    (hcont : ∀ h' tk', Fr h₀ L h' (fun z => if z = Str.ofString "chain" then some (.ref cl) else if z = Str.ofString "made" then some (.ref ml) else m z) → News h₀ L h' ((cl, listOf ch.toArray c) :: (ml, listOf made.toArray nd) :: (L + 1 + 1 + 1 + 1, oP) :: rest) → Q .next { s with heap := h', toks := tk' }) :
    wpAny (model prog w) (ktrTop dp un gd (Str.ofString "law") (scopeOf lawDef) L fa cdv (cellsFrom (L + 1) (scopeOf lawDef).names []) outer) (execs primeBody (envOfC (Str.ofString "law") (scopeOf lawDef) L fa cdv)) Q E s := by
  have K := chain_ok fun z hz => (hms z hz).1
  delta primeBody
  delta lawDef
  delta PySem.Challenge.pw_sa0147_01
  dsimp only [bodyOf, scopeOf, turnOf, List.drop, List.headD]
  k_steps
  unfold Halt
  k_dflt (refine LCg.ListComp_U (F₀ := by k_asm) (by rfl) (by decide) (by rfl) (by decide) (by rfl) ?_)
  k_steps
  unfold Halt
  k_dflt (refine comp_ints (fun z => val q.toNat z) (by rfl) (by assumption) (by assumption) (by k_mem) (by l_ints) (by rw [K.len]; omega) ?_ ?_)
  · intro z t I oI C oC D m₂ ys h tk E' hz hC hx F N
    have hz1 := K.pos z hz
    k_steps
    exact ⟨_, _, _, rfl, rfl, by assumption, by assumption⟩
  intro g' rs hrs
  k_steps
  unfold Halt
  k_dflt (refine LCg.ListComp_U (F₀ := by k_asm) (by rfl) (by decide) (by rfl) (by decide) (by rfl) ?_)
  k_steps
  unfold Halt
  k_dflt (refine comp_ints (fun z => val q.toNat z) (by rfl) (by assumption) (by assumption) (by k_mem) (by l_ints) (by omega) ?_ ?_)
  · intro z t I oI C oC D m₂ ys h tk E' hz hC hx F N
    have hz1 := (hms z hz).1
    k_steps
    exact ⟨_, _, _, rfl, rfl, by assumption, by assumption⟩
  intro g' rs hrs
  k_steps
  all_goals try (exact absurd (K.often _ hq _ (by assumption) (by assumption)) (by assumption))
  exact hcont _ _ (by assumption) (news_sub (by assumption) fun p hp => .tail _ (.tail _ (.tail _ hp)))
end
end Mine
-- part MW
namespace Mine
section
local macro_rules | `(tactic| walk_at "exec For Name List cons nil") => `(tactic| (k_here; (rename Fr _ _ _ _ => lF'); (with_unfolding_all refine' For_turns lF' (h := ?_) (hE := ?k3); (case k3 => assumption); k_whole); walk_say "FOR"))
theorem news_in {h₀ h : Heap} {L : Addr} {p1 p2 a b c : Addr × Obj} (N : News h₀ L h [p1, p2, a, b, c]) : News h₀ L h [a, b, c, p1, p2] := news_sub N fun x hx => by
  simp only [List.mem_cons, List.not_mem_nil, or_false] at hx ⊢
  rcases hx with h | h | h | h | h <;> simp only [h, true_or, or_true]
theorem news_in2 {h₀ h : Heap} {L : Addr} {p1 p2 a b c : Addr × Obj} (N : News h₀ L h [p1, a, b, c, p2]) : News h₀ L h [a, b, c, p1, p2] := news_sub N fun x hx => by
  simp only [List.mem_cons, List.not_mem_nil, or_false] at hx ⊢
  rcases hx with h | h | h | h | h <;> simp only [h, true_or, or_true]
local macro_rules | `(tactic| walk_at "execs cons") => `(tactic| ((with_reducible show wpAny _ _ (execs (Stmt.If (Expr.Compare (Expr.ListComp _ _ _ _) _ _ _) _ _ _ :: _) _) _ _ _); k_dflt (refine' turn14 _ _ _ _ _ _ _ _ _ _ _ _ _ _ _ _ _ _ _ _ _ _ _ _ _ _ _ _ _ [_, _] _ _ ?k1 ?k2 ?k3 ?k4 ?k5 ?k6 ?k7 ?k8 ?k9 ?k10 ?k11 ?k12 ?k13 ?k14 ?k15 ?_; (case k1 => assumption); (case k2 => assumption); (case k3 => assumption); (case k4 => first | exact news_in (by assumption) | exact news_in2 (by assumption)); (case k5 => assumption); (case k6 => assumption); (case k7 => assumption); (case k8 => assumption); (case k9 => assumption); (case k10 => assumption); (case k11 => assumption); (case k12 => assumption); (case k13 => (unfold Prim; decide)); (case k14 => decide); (case k15 => decide)); intro h6 tk6 F6 N6; (try dsimp only); (try k_fold); walk_say "TURN"))
theorem tail14 (prog : Program) (w : World) (p : Program) (loose : List Str) (mean : ExcName → Option Value) (mg mb : Str → Option Value) (dp un : Nat) (gd : Option (List Code)) (fa : Addr) (cdv : Value) (outer : List Env) (A₀ : Around) (base h₀ : Heap) (L : Addr) (m : Str → Option Value) (s : Shared) (Q : Flow → Shared → Prop) (E : Value → Shared → Prop)
    (ml cl : Addr) (made ch : List Value) (ms : List Int) (nd c : Nat) (oP : Obj) (vP : Option Value)
    (B : Below A₀ base outer h₀) (F : Fr h₀ L s.heap (fun z => if z = Str.ofString "chain" then some (.ref cl) else if z = Str.ofString "made" then some (.ref ml) else m z)) (X : (hd.heap_39 w.params).In h₀) (N : News h₀ L s.heap ((cl, listOf ch.toArray c) :: (ml, listOf made.toArray nd) :: (L + 1 + 1 + 1 + 1, oP) :: [])) (T : Top p loose mean mg mb h₀)
    (hd : dp + 20 < recursionLimit) (hu : un + 160 < cLine) (hmade : IntsAre made ms) (hml : ms.length ≤ 6) (hms : ∀ x ∈ ms, 1 ≤ x ∧ x ≤ 529200)
    (hE : PassesOwn (model prog w) (ktrTop dp un gd (Str.ofString "law") (scopeOf lawDef) L fa cdv (cellsFrom (L + 1) (scopeOf lawDef).names []) outer) (envOfC (Str.ofString "law") (scopeOf lawDef) L fa cdv) E)
    (d1 : oP.data = .cell vP) (hch : IntsAre ch (net gcdI lcmI ms)) (n1 : cl ≠ L + 1 + 1 + 1 + 1) (n2 : ml ≠ L + 1 + 1 + 1 + 1)
    (hcont : ∀ m' h' tk', Fr h₀ L h' m' → Q (.ret (.bool true)) { s with heap := h', toks := tk' }) :
    wpAny (model prog w) (ktrTop dp un gd (Str.ofString "law") (scopeOf lawDef) L fa cdv (cellsFrom (L + 1) (scopeOf lawDef).names []) outer) (execs ((bodyOf lawDef).drop 14) (envOfC (Str.ofString "law") (scopeOf lawDef) L fa cdv)) Q E s := by
  have K := chain_ok fun z hz => (hms z hz).1
  revert hcont hE
  delta lawDef
  delta PySem.Challenge.pw_sa0147_01
  dsimp only [bodyOf, scopeOf, List.drop, List.headD]
  intro hE hcont
  k_steps
  exact hcont _ _ _ (by assumption)
end
end Mine
-- part MY
namespace Mine
theorem fr1 {h₀ h : Heap} {L : Addr} {m : Str → Option Value} {x : Str} {v : Value} (F : Fr h₀ L h m) (e : m x = some v) : Fr h₀ L h (fun z => if z = x then some v else m z) := by
  have : (fun z => if z = x then some v else m z) = m := funext fun z => by
    by_cases hz : z = x
    · rw [if_pos hz, hz, e]
    · rw [if_neg hz]
  rw [this]
  exact F
theorem fr2 {h₀ h : Heap} {L : Addr} {m : Str → Option Value} {x y : Str} {v u : Value} (F : Fr h₀ L h m) (e1 : m x = some v) (e2 : m y = some u) : Fr h₀ L h (fun z => if z = x then some v else if z = y then some u else m z) := by
  have : (fun z => if z = x then some v else if z = y then some u else m z) = m := funext fun z => by
    by_cases hz : z = x
    · rw [if_pos hz, hz, e1]
    · rw [if_neg hz]
      by_cases hy : z = y
      · rw [if_pos hy, hy, e2]
      · rw [if_neg hy]
  rw [this]
  exact F
theorem news_law {h₀ h : Heap} {L : Addr} {a p q b c d e : Addr × Obj} {l : List (Addr × Obj)} (N : News h₀ L h (a :: p :: q :: b :: c :: d :: e :: l)) : News h₀ L h (a :: b :: c :: d :: e :: []) := news_sub N fun x hx => by
  simp only [List.mem_cons, List.not_mem_nil, or_false] at hx ⊢
  rcases hx with h | h | h | h | h <;> simp only [h, true_or, or_true]
theorem tail (prog : Program) (w : World) (p : Program) (loose : List Str) (mean : ExcName → Option Value) (mg mb : Str → Option Value) (dp un : Nat) (gd : Option (List Code)) (fa : Addr) (cdv : Value) (outer : List Env) (A₀ : Around) (base h₀ : Heap) (L : Addr) (m : Str → Option Value) (s : Shared) (Q : Flow → Shared → Prop) (E : Value → Shared → Prop)
    (rl ml nm : Addr) (row made : List Value) (ns ms : List Int) (nr nd : Nat) (oP oF oN : Obj) (further : Int) (tf : Tok) (vP : Option Value)
    (B : Below A₀ base outer h₀) (F : Fr h₀ L s.heap (fun z => if z = Str.ofString "made" then some (.ref ml) else if z = Str.ofString "row" then some (.ref rl) else m z)) (X : (hd.heap_39 w.params).In h₀) (N : News h₀ L s.heap ((ml, listOf made.toArray nd) :: (rl, listOf row.toArray nr) :: (L + 1 + 1 + 1 + 1, oP) :: (L + 1 + 1 + 1, oF) :: (L + 1 + 1, oN) :: [])) (T : Top p loose mean mg mb h₀)
    (hd : dp + 20 < recursionLimit) (hu : un + 160 < cLine) (hrow : IntsAre row ns) (hns : ns.length ≤ 6) (hmade : IntsAre made ms) (hml : ms.length ≤ 6) (hms : ∀ x ∈ ms, 1 ≤ x ∧ x ≤ 529200)
    (d1 : oN.data = .cell (some (.ref nm))) (d2 : oF.data = .cell (some (.int further tf))) (d3 : oP.data = .cell vP) (n1 : ml ≠ L + 1 + 1 + 1 + 1)
    (hE : PassesOwn (model prog w) (ktrTop dp un gd (Str.ofString "law") (scopeOf lawDef) L fa cdv (cellsFrom (L + 1) (scopeOf lawDef).names []) outer) (envOfC (Str.ofString "law") (scopeOf lawDef) L fa cdv) E)
    (hcont : ∀ m' h' tk', Fr h₀ L h' m' → Q (.ret (.bool true)) { s with heap := h', toks := tk' }) :
    wpAny (model prog w) (ktrTop dp un gd (Str.ofString "law") (scopeOf lawDef) L fa cdv (cellsFrom (L + 1) (scopeOf lawDef).names []) outer) (execs ((bodyOf lawDef).drop 5) (envOfC (Str.ofString "law") (scopeOf lawDef) L fa cdv)) Q E s :=
  tail5 prog w p loose mean mg mb dp un gd fa cdv outer A₀ base h₀ L m s Q E rl ml nm row made ns ms nr nd oP oF oN [] further tf B F X N T hd hu hrow hns d1 d2
    fun m' h' tk' e F' N' => tail9 prog w p loose mean mg mb dp un gd fa cdv outer A₀ base h₀ L m' _ Q E ml nm made ms nd oP oN [] B (fr1 F' e) X N' T hd hu hmade hml hms hE d1
      fun m'' cl ch c h'' tk'' hch ncl e1 e2 F'' N'' => tail14 prog w p loose mean mg mb dp un gd fa cdv outer A₀ base h₀ L m'' _ Q E ml cl made ch ms nd c oP vP B (fr2 F'' e1 e2) X N'' T hd hu hmade hml hms hE d3 hch ncl n1
        fun m3 h3 tk3 F3 => hcont m3 h3 tk3 F3
end Mine
-- part ML
namespace Mine
theorem tells_sym {prog : Program} {w : World} {need : Nat} {as : List Value} {f : Addr} {news : List (Addr × Obj)} {p : Program} {loose : List Str} {mean : ExcName → Option Value} {mg mb : Str → Option Value} {dp un : Nat} {gd : Option (List Code)} {cn : Str} {cs : Scope} {a : Addr} {ccd : Value} {cl : List (Str × Addr)} {outer : List Env} {A₀ : Around} {base h₀ : Heap} {L : Addr} {m : Str → Option Value} {s : Shared} {Q E : Value → Shared → Prop}
    (C : Tells prog w f need as news (fun v news' => (∃ x, v = .ref x) ∧ news' = news)) (B : Below A₀ base outer h₀) (F : Fr h₀ L s.heap m) (X : (hd.heap_39 w.params).In h₀) (N : News h₀ L s.heap news) (T : Top p loose mean mg mb h₀) (hk : cs.kind = .function)
    (hd : dp + need < recursionLimit) (hu : un + 8 * need < cLine) (hret : ∀ x h' tk', Fr h₀ L h' m → News h₀ L h' news → Q (.ref x) { s with heap := h', toks := tk' }) :
    wpAny (model prog w) (ktrTop dp un gd cn cs L a ccd cl outer) (call (.ref f) as) Q E s :=
  tells_use C B F X N T hk hd hu fun v news' h' tk' P F' N' => by
    obtain ⟨⟨x, rfl⟩, rfl⟩ := P
    exact hret x h' tk' F' N'
section
local macro_rules | `(tactic| walk_at "call ref") => `(tactic| (k_here; k_dflt (refine' tells_pool (draw_call _ _ _ _ _ _ _ _ _ _ _ _ _ _ _ _ _ ?qi ?ql ?q1 ?q0 ?qp ?qa) ?k1 ?k2 ?k3 ?k4 ?k5 ?kK ?kd ?ku ?_; (case k1 => k_asm); (case k2 => k_asm); (case k3 => k_asm); (case k4 => first | k_asm | exact pool_in1 (by k_asm)); (case k5 => k_asm); (case kK => first | exact rfl | assumption); (case kd => first | omega | ktr_room | ((try simp only [depth_under_make, depth_deeper]); (try dsimp only [ktrTop]); omega)); (case ku => first | omega | ktr_units | ((try simp only [units_under_make, units_deeper]); (try dsimp only [ktrTop]); omega)); (case qi => l_ints); (case ql => first | assumption | l_fact); (case q1 => first | assumption | decide); (case q0 => decide); (case qp => decide); (case qa => first | assumption | k_all)); intro d9 t9 c9 i9 k9 u9 v9 w9 n9 h9 tk9 hP9 hi9 F9 N9; (have hd0 := hP9.1); (have hd1 := hP9.2); clear hP9; (try dsimp only); (try k_fold); walk_say "CONTRACT draw_call"))
local macro_rules | `(tactic| walk_at "call ref") => `(tactic| (k_here; k_dflt (refine' tells_pool (number_call _ _ _ _ _ _ _ _ _ _ _ _ _ _ _ ?qi ?ql ?q1 ?qa) ?k1 ?k2 ?k3 ?k4 ?k5 ?kK ?kd ?ku ?_; (case k1 => k_asm); (case k2 => k_asm); (case k3 => k_asm); (case k4 => first | k_asm | exact pool_in1 (by k_asm)); (case k5 => k_asm); (case kK => first | exact rfl | assumption); (case kd => first | omega | ktr_room | ((try simp only [depth_under_make, depth_deeper]); (try dsimp only [ktrTop]); omega)); (case ku => first | omega | ktr_units | ((try simp only [units_under_make, units_deeper]); (try dsimp only [ktrTop]); omega)); (case qi => l_ints); (case ql => first | assumption | l_fact); (case q1 => first | assumption | decide); (case qa => first | assumption | k_all)); intro d9 t9 c9 i9 k9 u9 v9 w9 n9 h9 tk9 hP9 hi9 F9 N9; (try dsimp only); (try k_fold); walk_say "CONTRACT number_call"))
local macro_rules | `(tactic| walk_at "call ref") => `(tactic| (k_here; k_dflt (refine' tells_pool (product_call _ _ _ _ _ _ _ _ _ _ _ _ _ _ _ ?qi ?ql ?q1 ?qa) ?k1 ?k2 ?k3 ?k4 ?k5 ?kK ?kd ?ku ?_; (case k1 => k_asm); (case k2 => k_asm); (case k3 => k_asm); (case k4 => first | k_asm | exact pool_in1 (by k_asm)); (case k5 => k_asm); (case kK => first | exact rfl | assumption); (case kd => first | omega | ktr_room | ((try simp only [depth_under_make, depth_deeper]); (try dsimp only [ktrTop]); omega)); (case ku => first | omega | ktr_units | ((try simp only [units_under_make, units_deeper]); (try dsimp only [ktrTop]); omega)); (case qi => l_ints); (case ql => first | assumption | l_fact); (case q1 => first | assumption | decide); (case qa => first | assumption | k_all)); intro d9 t9 c9 i9 k9 u9 v9 w9 n9 h9 tk9 hP9 hi9 F9 N9; (try dsimp only); (try k_fold); walk_say "CONTRACT product_call"))
local macro_rules | `(tactic| walk_at "call ref") => `(tactic| (k_here; k_dflt (refine' tells_sym (sym_call _ _ _) ?k1 ?k2 ?k3 ?k4 ?k5 ?kK ?kd ?ku ?_; (case k1 => k_asm); (case k2 => k_asm); (case k3 => k_asm); (case k4 => first | k_asm | exact cb_drop (by k_asm) drop1 | exact cb_drop (by k_asm) drop2); (case k5 => k_asm); (case kK => first | exact rfl | assumption); (case kd => first | omega | ktr_room | ((try simp only [depth_under_make, depth_deeper]); (try dsimp only [ktrTop]); omega)); (case ku => first | omega | ktr_units | ((try simp only [units_under_make, units_deeper]); (try dsimp only [ktrTop]); omega))); intro x9 h9 tk9 F9 N9; (try dsimp only); (try k_fold); walk_say "CONTRACT sym_call"))
local macro_rules | `(tactic| walk_at "pyIter ref") => `(tactic| ((with_reducible show wpAny _ _ (pyIter (Value.ref _)) _ _ _); refine halt ?_; walk_say "HALT"))
local macro_rules | `(tactic| walk_at "exec Assign cons ListComp") => `(tactic| ((with_reducible show wpAny _ _ (exec _ _) _ _ _); refine halt ?_; walk_say "HALT"))
local macro_rules | `(tactic| walk_at "CompSrc") => `(tactic| (refine halt ?_; walk_say "HALT"))
local macro_rules | `(tactic| walk_at "eval ListComp") => `(tactic| ((with_reducible show wpAny _ _ (eval _ _) _ _ _); refine halt ?_; walk_say "HALT"))
local macro_rules | `(tactic| walk_at "execs cons") => `(tactic| ((with_reducible show wpAny _ _ (execs (Stmt.Assign [Expr.Name (Str.ofString "ordered") _] _ _ :: _) _) _ _ _); refine halt ?_; walk_say "HALT"))
theorem holds : PySem.Challenge.rw_sa0147_01.Holds := hd (by
  w_strict (k_go0; (all_goals try k_fold); k_steps)
  unfold Halt
  k_dflt (refine LCg.Assign_ListComp_U (F₀ := by k_asm) (by rfl) (by with_unfolding_all rfl) (by rfl) (by decide) (by rfl) (by decide) (by rfl) (by rfl) (by rfl) ?_)
  k_steps
  unfold Halt
  k_dflt (refine pool_src (fun _ => True) (by rfl) (by assumption) (by assumption) (by assumption) (by assumption) (by assumption) (by assumption) (by k_all) ?_ ?_)
  · intro I oI C oC D m₂ ys h tk E' c i k t1 t2 t3 nn hC hi F N ha
    k_steps
    exact ⟨_, _, _, _, _, _, _, _, _, _, _, rfl, trivial, by assumption, rfl, by assumption, by assumption⟩
  intro g row ns c i k t1 t2 t3 nn hrow hnsl _ hi
  k_steps
  unfold Halt
  k_dflt (refine LCg.Assign_ListComp_U (F₀ := by k_asm) (by rfl) (by with_unfolding_all rfl) (by rfl) (by decide) (by rfl) (by decide) (by rfl) (by rfl) (by rfl) ?_)
  k_steps
  unfold Halt
  k_dflt (refine pool_src (fun z => 1 ≤ z ∧ z ≤ 529200) (by rfl) (by assumption) (by assumption) (by assumption) (by assumption) (by assumption) (by assumption) (by k_all) ?_ ?_)
  · intro I oI C oC D m₂ ys h tk E' c i k t1 t2 t3 nn hC hi F N ha
    k_steps
    exact ⟨_, _, _, _, _, _, _, _, _, _, _, rfl, by assumption, by assumption, rfl, by assumption, by assumption⟩
  intro g made ms c i k t1 t2 t3 nn hmade hmsl hms hi
  k_steps
  unfold Halt
  k_dflt (refine' tail _ _ _ _ _ _ _ _ _ _ _ _ _ _ _ _ _ _ _ _ _ _ _ _ _ _ _ _ _ _ _ _ _ _ _ _ ?B ?F ?X ?N ?T ?hd ?hu ?hrow ?hns ?hmade ?hml ?hms ?d1 ?d2 ?d3 ?n1 ?hE ?hcont)
  case B => k_asm
  case F => k_asm
  case X => k_asm
  case N => exact news_law (by assumption)
  case T => k_asm
  case hd => first | omega | ktr_room | ((try simp only [depth_under_make, depth_deeper]); (try dsimp only [ktrTop]); omega)
  case hu => first | omega | ktr_units | ((try simp only [units_under_make, units_deeper]); (try dsimp only [ktrTop]); omega)
  case hrow => assumption
  case hns => assumption
  case hmade => assumption
  case hml => assumption
  case hms => assumption
  case d1 => assumption
  case d2 => assumption
  case d3 => assumption
  case n1 => k_ne
  case hE => with_unfolding_all passes_own
  case hcont =>
    intro m' h' tk' F'
    k_steps)
end
end Mine
theorem PySem.Challenge.cw_sa0147_01_holds : PySem.Challenge.rw_sa0147_01.Holds := by
  exact Mine.holds
