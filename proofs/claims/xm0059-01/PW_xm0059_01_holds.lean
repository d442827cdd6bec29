import PyProof.Rows.All
import Wide.All
import OpenK.AllK
import Wide.FinOn
import KE.KxText
import PySem.Challenge.RW_xm0059_01
open PySem PySem.W PyProof.Rows
set_option Elab.async false
namespace Mine
set_option maxRecDepth 100000
set_option maxHeartbeats 8000000
open_top hd for PySem.Challenge.rw_xm0059_01
end Mine
namespace Mine
set_option maxRecDepth 100000
set_option maxHeartbeats 8000000
/-- what a call of the text's def at f with the values vs does, from whatever frame of a def it is called: it comes back, and R tells of the ledger ahead, of the value and of the ledger behind -/
def Fn (w : World) (k : Nat) (f : Addr) (vs : List Value) (news : List (Addr × Obj)) (R : Value → List (Addr × Obj) → Prop) : Prop :=
  ∀ (mean : ExcName → Option Value) (mg mb : Str → Option Value) (dp un : Nat) (gd : Option (List Code)) (cn : Str) (cs : Scope) (a : Addr) (ccd : Value) (cl : List (Str × Addr)) (outer : List Env) (A₀ : Around) (base h₀ : Heap) (L : Addr) (m : Str → Option Value) (s : Shared) (Q E : Value → Shared → Prop),
    Below A₀ base outer h₀ → Fr h₀ L s.heap m → (hd.heap_39 w.params).In h₀ → News h₀ L s.heap news → Top hd.view_39 (looseW hd.view_39 [Str.ofString "BasicError"]) mean mg mb h₀ → cs.kind = .function →
    dp + k < recursionLimit → un + 8 * k < cLine →
    (∀ r news' h' tk', R r news' → Fr h₀ L h' m → News h₀ L h' news' → Q r { s with heap := h', toks := tk' }) →
    wpAny (model PySem.Challenge.rw_xm0059_01.row.prog w) (ktrTop dp un gd cn cs L a ccd cl outer) (call (.ref f) vs) Q E s
end Mine
namespace Mine
/-- the part stands in the text at a place (counted from 0) -/
def Occ (x p : Str) (a : Int) : Prop := (Txt.slice x (some a) (some (a + (p.length : Int))) == p) = true
/-- none stands at the n places from lo on -/
def NoOcc (x p : Str) (lo : Int) (n : Nat) : Prop := ∀ a, lo ≤ a → a < lo + n → ¬ Occ x p a
theorem noOcc_zero (x p : Str) (lo : Int) : NoOcc x p lo 0 := fun a h h' => absurd h' (by omega)
theorem noOcc_nil (x p : Str) (lo : Int) : NoOcc x p lo ([] : List Int).length := noOcc_zero x p lo
theorem noOcc_snoc {x p : Str} {lo k : Int} {pre : List Int} (h : NoOcc x p lo pre.length) (hk : k = lo + (pre.length : Int)) (hn : (Txt.slice x (some k) (some (k + (p.length : Int))) == p) = false) : NoOcc x p lo (pre ++ [k]).length := by
  intro a h1 h2
  rw [List.length_append, List.length_singleton] at h2
  by_cases e : a = k
  · subst e; unfold Occ; rw [hn]; decide
  · exact h a h1 (by omega)
theorem noOcc_snoc' {x p : Str} {lo k : Int} {pre : List Int} (h : NoOcc x p lo pre.length) (hk : k = lo + (pre.length : Int)) (hn : ¬ (Txt.slice x (some k) (some (k + (p.length : Int))) == p) = true) : NoOcc x p lo (pre ++ [k]).length :=
  noOcc_snoc h hk (by simpa using hn)
/-- what INSTR's search gives: the first place from b on (counted from 1), or nought -/
def Found (x p : Str) (b r : Int) : Prop :=
  (r = 0 ∧ ∀ a, b - 1 ≤ a → a < (x.length : Int) - p.length + 1 → ¬ Occ x p a) ∨
  (∃ a, b - 1 ≤ a ∧ a < (x.length : Int) - p.length + 1 ∧ r = a + 1 ∧ Occ x p a ∧ ∀ a', b - 1 ≤ a' → a' < a → ¬ Occ x p a')
/-- the first k signs of p end x -/
def Suf (x p : Str) (k : Int) : Prop := (Txt.slice p none (some k) == Txt.slice x (some (if (0 : Int) > (x.length : Int) - k then 0 else (x.length : Int) - k)) none) = true
/-- r is the longest such, at most m -/
def Longest (x p : Str) (m r : Int) : Prop :=
  0 ≤ r ∧ (r = 0 ∨ r ≤ m ∧ r ≤ (x.length : Int) ∧ Suf x p r) ∧ ∀ k, r < k → k ≤ m → k ≤ (x.length : Int) → ¬ Suf x p k
/-- none of the n numbers from hi down -/
def NoSuf (x p : Str) (hi : Int) (n : Nat) : Prop := ∀ k, hi - n < k → k ≤ hi → ¬ Suf x p k
theorem noSuf_nil (x p : Str) (hi : Int) : NoSuf x p hi ([] : List Int).length := fun k h h' => absurd h (by simp only [List.length_nil]; omega)
theorem noSuf_snoc {x p : Str} {hi k : Int} {pre : List Int} (h : NoSuf x p hi pre.length) (hk : k = hi - (pre.length : Int)) (hn : (Txt.slice p none (some k) == Txt.slice x (some (if (0 : Int) > (x.length : Int) - k then 0 else (x.length : Int) - k)) none) = false) : NoSuf x p hi (pre ++ [k]).length := by
  intro a h1 h2
  rw [List.length_append, List.length_singleton] at h1
  by_cases e : a = k
  · subst e; unfold Suf; rw [hn]; decide
  · exact h a (by omega) h2
theorem noSuf_snoc' {x p : Str} {hi k : Int} {pre : List Int} (h : NoSuf x p hi pre.length) (hk : k = hi - (pre.length : Int)) (hn : ¬ (Txt.slice p none (some k) == Txt.slice x (some (if (0 : Int) > (x.length : Int) - k then 0 else (x.length : Int) - k)) none) = true) : NoSuf x p hi (pre ++ [k]).length :=
  noSuf_snoc h hk (by simpa using hn)
end Mine
namespace Mine
set_option maxRecDepth 100000
set_option maxHeartbeats 8000000
local macro_rules | `(tactic| k_room) => `(tactic| ((simp only [depth_under_make, depth_under_kw, depth_in1, depth_deeper, depth_caller]); (try dsimp only [ktrTop]); omega))

theorem sign_c (w : World) (x : Str) (i : Int) (t u : Tok) (h1 : 1 ≤ i) (h2 : i ≤ 255) (hx : x.length ≤ 255) (news : List (Addr × Obj)) :
    Fn w 10 128 [.str x t, .int i u] news (fun r news' => news' = news ∧ ∃ tk, r = .str (Txt.slice x (some (i - 1)) (some (i - 1 + 1))) tk) := by
  unfold Fn
  k_fill
  intro mean mg mb dp un gd cn cs a ccd cl outer A₀ base h₀ L m s Q E B F X N T hk hdp hun hret
  refine wpAny_call ?_
  k_dflt cell_enter
  k_steps
  all_goals try (exfalso; omega)
  refine' hret _ news _ _ ?e1 ?e2 ?e3
  case e2 => assumption
  case e3 => (refine' cb_drop ?eN ?eS; (case eN => assumption); (case eS => kcj_all))
  case e1 => exact ⟨rfl, _, rfl⟩
end Mine
namespace Mine
set_option maxRecDepth 100000
set_option maxHeartbeats 8000000
local macro_rules | `(tactic| k_room) => `(tactic| ((simp only [depth_under_make, depth_under_kw, depth_in1, depth_deeper, depth_caller]); (try dsimp only [ktrTop]); omega))

theorem left_c (w : World) (x : Str) (i : Int) (t u : Tok) (l : Addr) (nn : Nat) (h1 : 0 ≤ i) (h2 : i ≤ 255) (hx : x.length ≤ 255) (news : List (Addr × Obj)) :
    Fn w 10 100 [.none, .ref l] ((l, listOf #[.str x t, .int i u] nn) :: news) (fun r news' => news' = news ∧ ∃ tk, r = .str (Txt.slice x none (some i)) tk) := by
  unfold Fn
  k_fill
  intro mean mg mb dp un gd cn cs a ccd cl outer A₀ base h₀ L m s Q E B F X N T hk hdp hun hret
  refine wpAny_call ?_
  k_dflt cell_enter
  k_steps
  all_goals try (exfalso; omega)
  refine' hret _ news _ _ ?e1 ?e2 ?e3
  case e2 => assumption
  case e3 => (refine' cb_drop ?eN ?eS; (case eN => assumption); (case eS => kcj_all))
  case e1 => exact ⟨rfl, _, rfl⟩
theorem right_c (w : World) (x : Str) (i : Int) (t u : Tok) (l : Addr) (nn : Nat) (h1 : 0 ≤ i) (h2 : i ≤ 255) (hx : x.length ≤ 255) (news : List (Addr × Obj)) :
    Fn w 10 107 [.none, .ref l] ((l, listOf #[.str x t, .int i u] nn) :: news) (fun r news' => news' = news ∧ ∃ tk, r = .str (Txt.slice x (some (if (0 : Int) > (x.length : Int) - i then 0 else (x.length : Int) - i)) none) tk) := by
  unfold Fn
  k_fill
  intro mean mg mb dp un gd cn cs a ccd cl outer A₀ base h₀ L m s Q E B F X N T hk hdp hun hret
  refine wpAny_call ?_
  k_dflt cell_enter
  k_steps
  all_goals try (exfalso; omega)
  refine' hret _ news _ _ ?e1 ?e2 ?e3
  case e2 => assumption
  case e3 => (refine' cb_drop ?eN ?eS; (case eN => assumption); (case eS => kcj_all))
  case e1 => exact ⟨rfl, _, rfl⟩
end Mine
namespace Mine
set_option maxRecDepth 100000
set_option maxHeartbeats 8000000
local macro_rules | `(tactic| k_room) => `(tactic| ((simp only [depth_under_make, depth_under_kw, depth_in1, depth_deeper, depth_caller]); (try dsimp only [ktrTop]); omega))

theorem found_c (w : World) (x p : Str) (b : Int) (t u v : Tok) (hx : x.length ≤ 255) (hp : p.length ≤ 255) (hp1 : 1 ≤ p.length) (hb : 1 ≤ b) (hb' : b ≤ 255) (news : List (Addr × Obj)) :
    Fn w 10 86 [.str x t, .str p u, .int b v] news (fun r news' => news' = news ∧ ∃ k tk, Found x p b k ∧ r = .int k tk) := by
  unfold Fn
  k_fill
  k_with_none
  k_with "pyIter ref" => k_search (fun pre => NoOcc x p (b - 1) pre.length)
  k_with "state" => first | exact noOcc_nil _ _ _ | exact noOcc_snoc (by assumption) (by assumption) (by assumption) | exact noOcc_snoc' (by assumption) (by assumption) (by assumption)
  intro mean mg mb dp un gd cn cs a ccd cl outer A₀ base h₀ L m s Q E B F X N T hk hdp hun hret
  refine wpAny_call ?_
  k_dflt cell_enter
  k_steps
  · refine' hret _ news _ _ ?e1 ?e2 ?e3
    case e2 => assumption
    case e3 => (refine' cb_drop ?eN ?eS; (case eN => assumption); (case eS => kcj_all))
    case e1 => exact ⟨rfl, _, _, .inl ⟨rfl, fun a h1 h2 => absurd h2 (by omega)⟩, rfl⟩
  · refine' hret _ news _ _ ?e1 ?e2 ?e3
    case e2 => assumption
    case e3 => (refine' cb_drop ?eN ?eS; (case eN => assumption); (case eS => kcj_all))
    case e1 => exact ⟨rfl, _, _, .inr ⟨kN, by omega, by omega, rfl, by assumption, fun a h1 h2 => kInv a h1 (by omega)⟩, rfl⟩
  · refine' hret _ news _ _ ?e1 ?e2 ?e3
    case e2 => assumption
    case e3 => (refine' cb_drop ?eN ?eS; (case eN => assumption); (case eS => kcj_all))
    case e1 => exact ⟨rfl, _, _, .inl ⟨rfl, fun a h1 h2 => kInv a h1 (by rw [rangeKs_length]; omega)⟩, rfl⟩
end Mine
namespace Mine
set_option maxRecDepth 100000
set_option maxHeartbeats 8000000
local macro_rules | `(tactic| k_room) => `(tactic| ((simp only [depth_under_make, depth_under_kw, depth_in1, depth_deeper, depth_caller]); (try dsimp only [ktrTop]); omega))

theorem draw_bd (a b : Int) (h : b = 2 ∨ b = 3) : 0 ≤ a.fmod b ∧ a.fmod b < b := by
  have hb : 0 < b := by omega
  exact ⟨Int.fmod_nonneg_of_pos a hb, Int.fmod_lt_of_pos a hb⟩

theorem draw_c (w : World) (b l : Addr) (vs : List Value) (ns : List Int) (nn : Nat) (i below : Int) (t u : Tok) (h0 : 0 ≤ i) (h1 : i ≤ 100) (hbw : below = 2 ∨ below = 3) (hns : ns.length ≤ 13) (hi : IntsAre vs ns) (hlb : @Ne Nat l b) (news : List (Addr × Obj)) (hoff : OwnOff news [b]) :
    Fn w 10 121 [.ref b, .int below u] ((b, listOf #[.ref l, .int i t] nn) :: (l, listOf vs.toArray 0) :: news) (fun r news' => ∃ k tk tk', r = .int k tk ∧ 0 ≤ k ∧ k < below ∧ news' = ((b, listOf #[.ref l, .int (i + 1) tk'] nn) :: (l, listOf vs.toArray 0) :: news)) := by
  unfold Fn
  k_fill
  intro mean mg mb dp un gd cn cs a ccd cl outer A₀ base h₀ L m s Q E B F X N T hk hdp hun hret
  refine wpAny_call ?_
  k_dflt cell_enter
  k_steps
  all_goals (
    refine' hret _ ((b, listOf #[.ref l, .int (i + 1) _] nn) :: (l, listOf vs.toArray 0) :: news) _ _ ?e1 ?e2 ?e3
    case e2 => assumption
    case e3 => assumption
    case e1 => exact ⟨_, _, _, rfl, (draw_bd _ _ hbw).1, (draw_bd _ _ hbw).2, rfl⟩)
end Mine
namespace Mine
set_option maxRecDepth 100000
set_option maxHeartbeats 8000000
local macro_rules | `(tactic| k_room) => `(tactic| ((simp only [depth_under_make, depth_under_kw, depth_in1, depth_deeper, depth_caller]); (try dsimp only [ktrTop]); omega))
local macro_rules | `(tactic| walk_at "call ref") => `(tactic| k_extra "my call")

theorem instr2_c (w : World) (x p : Str) (l : Addr) (nn : Nat) (t u : Tok) (hx : x.length ≤ 255) (hp : p.length ≤ 255) (hp1 : 1 ≤ p.length) (news : List (Addr × Obj)) :
    Fn w 20 93 [.none, .ref l] ((l, listOf #[.str x t, .str p u] nn) :: news) (fun r news' => news' = news ∧ ∃ k tk, Found x p 1 k ∧ r = .int k tk) := by
  unfold Fn
  k_fill
  k_with_none
  k_with "my call" => ((show wpAny _ _ (PySem.call (Value.ref 86) _) _ _ _); k_dflt (refine' found_c _ x p 1 _ _ _ hx hp hp1 (by decide) (by decide) _ mean mg mb _ _ _ _ _ _ _ _ _ _ _ _ _ _ _ _ _ ?B ?F ?X ?N ?T ?K ?d ?u ?R); (case B => k_asm); (case F => k_asm); (case X => k_asm); (case N => k_asm); (case T => k_asm); (case K => first | exact rfl | assumption); (case d => ktr_room); (case u => ktr_units); intro r' news' h' tk' hR F' N'; obtain ⟨rfl, k', tk9, hf', rfl⟩ := hR; (try dsimp only); (try k_fold))
  intro mean mg mb dp un gd cn cs a ccd cl outer A₀ base h₀ L m s Q E B F X N T hk hdp hun hret
  refine wpAny_call ?_
  k_dflt cell_enter
  k_steps
  all_goals try (exfalso; omega)
  refine' hret _ news _ _ ?e1 ?e2 ?e3
  case e2 => assumption
  case e3 => (refine' cb_drop ?eN ?eS; (case eN => assumption); (case eS => kcj_all))
  case e1 => exact ⟨rfl, _, _, by assumption, rfl⟩

theorem instr3_c (w : World) (x p : Str) (b : Int) (v : Tok) (hb : 1 ≤ b) (hb2 : b ≤ 255) (l : Addr) (nn : Nat) (t u : Tok) (hx : x.length ≤ 255) (hp : p.length ≤ 255) (hp1 : 1 ≤ p.length) (news : List (Addr × Obj)) :
    Fn w 20 93 [.none, .ref l] ((l, listOf #[.int b v, .str x t, .str p u] nn) :: news) (fun r news' => news' = news ∧ ∃ k tk, Found x p b k ∧ r = .int k tk) := by
  unfold Fn
  k_fill
  k_with_none
  k_with "my call" => ((show wpAny _ _ (PySem.call (Value.ref 86) _) _ _ _); k_dflt (refine' found_c _ x p b _ _ _ hx hp hp1 hb hb2 _ mean mg mb _ _ _ _ _ _ _ _ _ _ _ _ _ _ _ _ _ ?B ?F ?X ?N ?T ?K ?d ?u ?R); (case B => k_asm); (case F => k_asm); (case X => k_asm); (case N => k_asm); (case T => k_asm); (case K => first | exact rfl | assumption); (case d => ktr_room); (case u => ktr_units); intro r' news' h' tk' hR F' N'; obtain ⟨rfl, k', tk9, hf', rfl⟩ := hR; (try dsimp only); (try k_fold))
  intro mean mg mb dp un gd cn cs a ccd cl outer A₀ base h₀ L m s Q E B F X N T hk hdp hun hret
  refine wpAny_call ?_
  k_dflt cell_enter
  k_steps
  all_goals try (exfalso; omega)
  refine' hret _ news _ _ ?e1 ?e2 ?e3
  case e2 => assumption
  case e3 => (refine' cb_drop ?eN ?eS; (case eN => assumption); (case eS => kcj_all))
  case e1 => exact ⟨rfl, _, _, by assumption, rfl⟩
end Mine
namespace Mine
set_option maxRecDepth 100000
set_option maxHeartbeats 8000000
local macro_rules | `(tactic| k_room) => `(tactic| ((simp only [depth_under_make, depth_under_kw, depth_in1, depth_deeper, depth_caller]); (try dsimp only [ktrTop]); omega))
local macro_rules | `(tactic| walk_at "call ref") => `(tactic| (k_dflt ((show wpAny _ _ (PySem.call (Value.ref 100) _) _ _ _); (refine' left_c _ _ _ _ _ _ _ ?zh0 ?zh1 ?zh2 _ _ _ _ _ _ _ _ _ _ _ _ _ _ _ _ _ _ _ _ _ ?zB ?zF ?zX ?zN ?zT ?zK ?zd ?zu ?_); (case zB => k_asm); (case zF => k_asm); (case zX => k_asm); (case zN => k_asm); (case zT => k_asm); (case zK => first | exact rfl | assumption); (case zd => ktr_room); (case zu => ktr_units); (case zh0 => omega); (case zh1 => omega); (case zh2 => omega); intro r9 news9 h' tk' hR9 F' N'; obtain ⟨hE9, tk9, hV9⟩ := hR9; subst hE9; subst hV9; (try dsimp only); (try k_fold))))
local macro_rules | `(tactic| walk_at "call ref") => `(tactic| (k_dflt ((show wpAny _ _ (PySem.call (Value.ref 107) _) _ _ _); (refine' right_c _ _ _ _ _ _ _ ?zh0 ?zh1 ?zh2 _ _ _ _ _ _ _ _ _ _ _ _ _ _ _ _ _ _ _ _ _ ?zB ?zF ?zX ?zN ?zT ?zK ?zd ?zu ?_); (case zB => k_asm); (case zF => k_asm); (case zX => k_asm); (case zN => k_asm); (case zT => k_asm); (case zK => first | exact rfl | assumption); (case zd => ktr_room); (case zu => ktr_units); (case zh0 => omega); (case zh1 => omega); (case zh2 => omega); intro r9 news9 h' tk' hR9 F' N'; obtain ⟨hE9, tk9, hV9⟩ := hR9; subst hE9; subst hV9; (try dsimp only); (try k_fold))))
local macro_rules | `(tactic| walk_at "pyIter ref") => `(tactic| k_extra "my iter")

theorem longest_c (w : World) (x p : Str) (mo : Int) (t u v : Tok) (hx : x.length ≤ 255) (hp : p.length ≤ 255) (hm : 0 ≤ mo) (hm2 : mo ≤ 255) (news : List (Addr × Obj)) :
    Fn w 20 142 [.str x t, .str p u, .int mo v] news (fun r news' => news' = news ∧ ∃ k tk, Longest x p mo k ∧ r = .int k tk) := by
  unfold Fn
  k_fill
  k_with_none
  k_with "my iter" => ((rename Fr _ _ _ _ => lF'); (rename News _ _ _ _ => lN'); (rename IsRange _ _ _ _ _ _ _ _ => rgX); (with_unfolding_all refine' kst_rangeD (fun _ : Unit => news) (fun _ => []) (fun _ => True) [] (fun pre _ => NoSuf x p (if (x.length : Int) < mo then (x.length : Int) else mo) pre.length) () (by rfl) rgX (small_down (by omega) (by omega) (by omega) (by omega)) (by exact rangeSize_downNat _ _) lF' lN' trivial (List.forall_mem_nil _) (noSuf_nil _ _ _) ?_ ?_); (case' refine'_1 => (intro c9 kPre kN kT kU kH kTk kOwn kEq kLt kOff kFacts kInv kFr kNews)); (case' refine'_2 => (intro c9 kU kH kTk kFacts kInv kFr kNews)); (all_goals ((have kMark := kstMark); (try dsimp only [kstB] at kFr); (try dsimp only at kNews); (try dsimp only at kInv); (try k_fold))))
  k_with "state" => first | exact noSuf_nil _ _ _ | exact noSuf_snoc (by assumption) (by assumption) (by assumption) | exact noSuf_snoc' (by assumption) (by assumption) (by assumption)
  intro mean mg mb dp un gd cn cs a ccd cl outer A₀ base h₀ L m s Q E B F X N T hk hdp hun hret
  refine wpAny_call ?_
  k_dflt cell_enter
  k_steps
  · refine' hret _ news _ _ ?e1 ?e2 ?e3
    case e2 => assumption
    case e3 => (refine' cb_drop ?eN ?eS; (case eN => assumption); (case eS => kcj_all))
    case e1 => exact ⟨rfl, _, _, ⟨by decide, .inl rfl, fun k h1 h2 h3 => kInv k (by rw [downKs_length]; omega) (by omega)⟩, rfl⟩
  · refine' hret _ news _ _ ?e1 ?e2 ?e3
    case e2 => assumption
    case e3 => (refine' cb_drop ?eN ?eS; (case eN => assumption); (case eS => kcj_all))
    case e1 => exact ⟨rfl, _, _, ⟨by omega, .inr ⟨by omega, by omega, by assumption⟩, fun k h1 h2 h3 => kInv k (by omega) (by omega)⟩, rfl⟩
end Mine
namespace Mine
/-- the first k signs of c end the first e signs of d (places counted from 1) -/
def Sf (c d : Int → Nat) (e k : Int) : Prop := ∀ i, 1 ≤ i → i ≤ k → c i = d (e - k + i)
theorem sf_zero (c d : Int → Nat) (e : Int) : Sf c d e 0 := fun i h1 h2 => absurd h2 (by omega)
theorem sf_up {c d : Int → Nat} {e k : Int} (h : Sf c d e k) (hs : c (k + 1) = d (e + 1)) : Sf c d (e + 1) (k + 1) := by
  intro i h1 h2
  by_cases hi : i = k + 1
  · subst hi; rw [hs]; congr 1; omega
  · rw [h i h1 (by omega)]; congr 1; omega
theorem sf_down {c d : Int → Nat} {e k : Int} (h : Sf c d (e + 1) (k + 1)) : Sf c d e k := by
  intro i h1 h2
  rw [h i h1 (by omega)]; congr 1; omega
theorem sf_last {c d : Int → Nat} {e k : Int} (hk : 0 ≤ k) (h : Sf c d (e + 1) (k + 1)) : c (k + 1) = d (e + 1) := by
  rw [h (k + 1) (by omega) (by omega)]; congr 1; omega
theorem sf_in {c d : Int → Nat} {e q k : Int} (hq : Sf c d e q) (hkq : k ≤ q) (h : Sf c d e k) : Sf c c q k := by
  intro i h1 h2
  rw [h i h1 h2, hq (q - k + i) (by omega) (by omega)]; congr 1; omega
theorem sf_of {c d : Int → Nat} {e q k : Int} (hq : Sf c d e q) (hkq : k ≤ q) (h : Sf c c q k) : Sf c d e k := by
  intro i h1 h2
  rw [h i h1 h2, hq (q - k + i) (by omega) (by omega)]; congr 1; omega

/-- r is the greatest border of the first q signs -/
def MaxBd (c : Int → Nat) (q r : Int) : Prop := 0 ≤ r ∧ r < q ∧ Sf c c q r ∧ ∀ k, r < k → k < q → ¬ Sf c c q k
theorem maxBd_one (c : Int → Nat) : MaxBd c 1 0 := ⟨by decide, by decide, sf_zero _ _ _, fun k h1 h2 => absurd h2 (by omega)⟩

/-- the state of a search: q is a beginning that ends the first e signs of d; what is longer (and below n) is not gone on with by the next sign -/
def Srch (c d : Int → Nat) (e n q : Int) : Prop := 0 ≤ q ∧ q < n ∧ Sf c d e q ∧ ∀ k, q < k → k < n → Sf c d e k → c (k + 1) ≠ d (e + 1)
theorem srch_fall {c d : Int → Nat} {e n q r : Int} (h : Srch c d e n q) (hn : c (q + 1) ≠ d (e + 1)) (hr : MaxBd c q r) : Srch c d e n r := by
  obtain ⟨h1, h2, h3, h4⟩ := h
  obtain ⟨r1, r2, r3, r4⟩ := hr
  refine ⟨r1, by omega, sf_of h3 (by omega) r3, fun k k1 k2 k3 => ?_⟩
  by_cases e1 : q < k
  · exact h4 k e1 k2 k3
  · by_cases e2 : k = q
    · subst e2; exact hn
    · exact absurd (sf_in h3 (by omega) k3) (r4 k k1 (by omega))
/-- the greatest beginning of at most n signs that ends the first e signs -/
def MaxSf (c d : Int → Nat) (e n q : Int) : Prop := 0 ≤ q ∧ q ≤ n ∧ Sf c d e q ∧ ∀ k, q < k → k ≤ n → ¬ Sf c d e k
theorem srch_met {c d : Int → Nat} {e n q : Int} (h : Srch c d e n q) (hm : c (q + 1) = d (e + 1)) : MaxSf c d (e + 1) n (q + 1) := by
  obtain ⟨h1, h2, h3, h4⟩ := h
  refine ⟨by omega, by omega, sf_up h3 hm, fun k k1 k2 k3 => ?_⟩
  have e1 : k = (k - 1) + 1 := by omega
  rw [e1] at k3
  exact h4 (k - 1) (by omega) (by omega) (sf_down k3) (sf_last (by omega) k3)
theorem srch_none {c d : Int → Nat} {e n : Int} (h : Srch c d e n 0) (hm : c (0 + 1) ≠ d (e + 1)) : MaxSf c d (e + 1) n 0 := by
  obtain ⟨h1, h2, h3, h4⟩ := h
  refine ⟨by omega, by omega, sf_zero _ _ _, fun k k1 k2 k3 => ?_⟩
  have e1 : k = (k - 1) + 1 := by omega
  rw [e1] at k3
  by_cases e2 : k - 1 = 0
  · rw [e2] at k3; exact hm (sf_last (by omega) k3)
  · exact h4 (k - 1) (by omega) (by omega) (sf_down k3) (sf_last (by omega) k3)
/-- the search begins: the state below n -/
theorem srch_start {c d : Int → Nat} {e n q : Int} (h : MaxSf c d e n q) (hq : q < n) : Srch c d e n q :=
  ⟨h.1, hq, h.2.2.1, fun k k1 k2 k3 => absurd k3 (h.2.2.2 k k1 (by omega))⟩
theorem srch_start_full {c d : Int → Nat} {e n r : Int} (h : MaxSf c d e n n) (hr : MaxBd c n r) : Srch c d e n r := by
  obtain ⟨r1, r2, r3, r4⟩ := hr
  exact ⟨r1, r2, sf_of h.2.2.1 (by omega) r3, fun k k1 k2 k3 => absurd (sf_in h.2.2.1 (by omega) k3) (r4 k k1 k2)⟩
/-- borders: the search of c in itself -/
theorem srch_bd {c : Int → Nat} {a r : Int} (h : MaxBd c (a - 1) r) (ha : 2 ≤ a) : Srch c c (a - 1) (a - 1) r :=
  ⟨h.1, h.2.1, h.2.2.1, fun k k1 k2 k3 => absurd k3 (h.2.2.2 k k1 k2)⟩
theorem maxBd_of {c : Int → Nat} {a r : Int} (h : MaxSf c c (a - 1 + 1) (a - 1) r) : MaxBd c a r := by
  have e : a - 1 + 1 = a := by omega
  rw [e] at h
  exact ⟨h.1, by have := h.2.1; omega, h.2.2.1, fun k k1 k2 => h.2.2.2 k k1 (by omega)⟩
end Mine
namespace Mine
/-- the number of the sign at a place, counted from 1, and one more; nought ahead of the first -/
def ch (x : Str) (i : Int) : Nat := if 1 ≤ i then x.cps.toList.getD (i - 1).toNat 0 + 1 else 0
theorem ch_pos {x : Str} {i : Int} (h : 1 ≤ i) : ch x i ≠ 0 := by unfold ch; rw [if_pos h]; omega
theorem ch_zero {x : Str} {i : Int} (h : i ≤ 0) : ch x i = 0 := by unfold ch; rw [if_neg (by omega)]
theorem sf_le {x p : Str} {e k : Int} (hk : 1 ≤ k) (h : Sf (ch p) (ch x) e k) : k ≤ e := by
  have h1 := h 1 (by omega) hk
  by_cases q : k ≤ e
  · exact q
  · rw [ch_zero (x := x) (by omega)] at h1
    exact absurd h1 (ch_pos (by omega))
theorem toList_length (x : Str) : x.cps.toList.length = x.length := rfl
theorem sl_mid {x : Str} {i j : Int} (h0 : 0 ≤ i) (h1 : i ≤ j) (h2 : j ≤ x.length) : Txt.slice x (some i) (some j) = ⟨((x.cps.toList.drop i.toNat).take (j - i).toNat).toArray⟩ := beq_iff_eq.mp (slice_closesL h0 h1 h2)
theorem sl_to {x : Str} {j : Int} (h0 : 0 ≤ j) (h2 : j ≤ x.length) : Txt.slice x none (some j) = ⟨(x.cps.toList.take j.toNat).toArray⟩ := by
  have := beq_iff_eq.mp (slice_closes_toL h0 h2)
  simpa using this
theorem sl_from {x : Str} {i : Int} (h0 : 0 ≤ i) (h2 : i ≤ x.length) : Txt.slice x (some i) none = ⟨(x.cps.toList.drop i.toNat).toArray⟩ := by
  have := slice_from_eq h0 h2 rfl
  rw [this]
  congr 2
  rw [List.take_of_length_le]
  rw [List.length_drop, toList_length]; omega
theorem ch_getElem {x : Str} {i : Int} {n : Nat} (h1 : 1 ≤ i) (hn : n = (i - 1).toNat) (h : n < x.cps.toList.length) : ch x i = x.cps.toList[n] + 1 := by
  subst hn; unfold ch; rw [if_pos h1, List.getD_eq_getElem?_getD, List.getElem?_eq_getElem h]; rfl
theorem sl_sign {x : Str} {i : Int} (h1 : 1 ≤ i) (h2 : i ≤ x.length) : Txt.slice x (some (i - 1)) (some (i - 1 + 1)) = ⟨#[ch x i - 1]⟩ := by
  rw [sl_mid (by omega) (by omega) (by omega)]
  have e : (i - 1 + 1 - (i - 1)).toNat = 1 := by omega
  have hl : (i - 1).toNat < x.cps.toList.length := by rw [toList_length]; omega
  rw [e, List.drop_eq_getElem_cons hl, ch_getElem h1 rfl hl]
  rfl
theorem sign_eq {x p : Str} {i j : Int} (h1 : 1 ≤ i) (h2 : i ≤ x.length) (h3 : 1 ≤ j) (h4 : j ≤ p.length) :
    (Txt.slice x (some (i - 1)) (some (i - 1 + 1)) == Txt.slice p (some (j - 1)) (some (j - 1 + 1))) = true ↔ ch x i = ch p j := by
  rw [sl_sign h1 h2, sl_sign h3 h4, beq_iff_eq]
  have a := ch_pos (x := x) h1
  have b := ch_pos (x := p) h3
  constructor
  · intro h
    have : ch x i - 1 = ch p j - 1 := by injection h with h; simpa using h
    omega
  · intro h; rw [h]
/-- two stretches of k signs are the same: sign by sign -/
theorem stretch_eq {x p : Str} {a b k : Int} (ha : 0 ≤ a) (hb : 0 ≤ b) (hk : 0 ≤ k) (hx : a + k ≤ x.length) (hp : b + k ≤ p.length) :
    (x.cps.toList.drop a.toNat).take k.toNat = (p.cps.toList.drop b.toNat).take k.toNat ↔ ∀ i, 1 ≤ i → i ≤ k → ch x (a + i) = ch p (b + i) := by
  have lx : x.cps.toList.length = x.length := rfl
  have lp : p.cps.toList.length = p.length := rfl
  constructor
  · intro h i h1 h2
    have e : ((x.cps.toList.drop a.toNat).take k.toNat)[(i - 1).toNat]? = ((p.cps.toList.drop b.toNat).take k.toNat)[(i - 1).toNat]? := by rw [h]
    rw [List.getElem?_take_of_lt (by omega), List.getElem?_take_of_lt (by omega), List.getElem?_drop, List.getElem?_drop, List.getElem?_eq_getElem (by omega), List.getElem?_eq_getElem (by omega)] at e
    rw [ch_getElem (n := a.toNat + (i - 1).toNat) (by omega) (by omega) (by omega), ch_getElem (n := b.toNat + (i - 1).toNat) (by omega) (by omega) (by omega)]
    rw [Option.some.inj e]
  · intro h
    apply List.ext_getElem
    · simp only [List.length_take, List.length_drop]; omega
    · intro n h1 h2
      simp only [List.length_take, List.length_drop] at h1 h2
      rw [List.getElem_take, List.getElem_take, List.getElem_drop, List.getElem_drop]
      have := h ((n : Int) + 1) (by omega) (by omega)
      rw [ch_getElem (n := a.toNat + n) (by omega) (by omega) (by omega), ch_getElem (n := b.toNat + n) (by omega) (by omega) (by omega)] at this
      omega
theorem str_eq {a b : List Nat} : ((⟨a.toArray⟩ : Str) == ⟨b.toArray⟩) = true ↔ a = b := by
  rw [beq_iff_eq]; simp
theorem suf_iff {x p : Str} {k : Int} (h1 : 0 ≤ k) (h2 : k ≤ x.length) (h3 : k ≤ p.length) : Suf x p k ↔ Sf (ch p) (ch x) x.length k := by
  unfold Suf Sf
  rw [if_neg (by omega), sl_to h1 h3, sl_from (by omega) (by omega), str_eq]
  have lx : x.cps.toList.length = x.length := rfl
  have e := stretch_eq (x := p) (p := x) (a := 0) (b := (x.length : Int) - k) (k := k) (by omega) (by omega) h1 (by omega) (by omega)
  have e1 : (x.cps.toList.drop ((x.length : Int) - k).toNat).take k.toNat = x.cps.toList.drop ((x.length : Int) - k).toNat := by
    rw [List.take_of_length_le]; rw [List.length_drop]; omega
  have e0 : (p.cps.toList.drop (0 : Int).toNat) = p.cps.toList := rfl
  rw [e1, e0] at e
  rw [e]
  simp only [Int.zero_add]
theorem occ_iff {x p : Str} {a : Int} (h1 : 0 ≤ a) (h2 : a + p.length ≤ x.length) : Occ x p a ↔ Sf (ch p) (ch x) (a + p.length) p.length := by
  unfold Occ Sf
  rw [sl_mid h1 (by omega) h2]
  have lp : p.cps.toList.length = p.length := rfl
  have e := stretch_eq (x := x) (p := p) (a := a) (b := 0) (k := p.length) h1 (by omega) (by omega) h2 (by omega)
  have e1 : (p.cps.toList.drop (0 : Int).toNat).take ((p.length : Int)).toNat = p.cps.toList := by
    show p.cps.toList.take _ = _
    rw [List.take_of_length_le]; omega
  rw [e1] at e
  have e2 : (a + (p.length : Int) - a).toNat = ((p.length : Int)).toNat := by omega
  rw [e2]
  have e3 : (Str.mk p.cps.toList.toArray) = p := by cases p; simp
  have e4 : ∀ l : List Nat, ((⟨l.toArray⟩ : Str) == p) = true ↔ l = p.cps.toList := by
    intro l
    have q := @str_eq l p.cps.toList
    rw [e3] at q
    exact q
  rw [e4, e]
  constructor
  · intro h i h3 h4
    rw [← Int.zero_add i, ← h i h3 h4]; congr 1; omega
  · intro h i h3 h4
    rw [Int.zero_add, h i h3 h4]; congr 1; omega
theorem ch_take {x : Str} {e i : Int} (h0 : 0 ≤ e) (he : e ≤ x.length) (h1 : 1 ≤ i) (h2 : i ≤ e) : ch (Txt.slice x none (some e)) i = ch x i := by
  have lx : x.cps.toList.length = x.length := rfl
  rw [sl_to h0 he]
  unfold ch
  rw [if_pos h1, if_pos h1]
  show List.getD (x.cps.toList.take e.toNat) _ _ + 1 = _
  rw [List.getD_eq_getElem?_getD, List.getD_eq_getElem?_getD, List.getElem?_take_of_lt (by omega)]
theorem len_take {x : Str} {e : Int} (h0 : 0 ≤ e) (he : e ≤ x.length) : ((Txt.slice x none (some e)).length : Int) = e := by
  have lx : x.cps.toList.length = x.length := rfl
  rw [sl_to h0 he]
  show ((x.cps.toList.take e.toNat).toArray.size : Int) = e
  rw [List.size_toArray, List.length_take]; omega
end Mine
namespace Mine
/-- the table: at each place from 1 on the greatest border of that many signs -/
def BOk (p : Str) (items : List Int) : Prop := ∀ q : Int, 1 ≤ q → q < items.length → MaxBd (ch p) q (items.getD q.toNat 0)
def BWd (p : Str) (a here : Int) : Prop := 2 ≤ a ∧ a ≤ p.length ∧ Srch (ch p) (ch p) (a - 1) (a - 1) here
theorem bst0 (p : Str) : ([0, 0] : List Int).length = ([] : List Int).length + 2 ∧ BOk p [0, 0] := by
  refine ⟨rfl, fun q h1 h2 => ?_⟩
  have e : q = 1 := by simp only [List.length_cons, List.length_nil] at h2; omega
  subst e
  exact maxBd_one _
theorem bws0 {p : Str} {items pre : List Int} {k : Int} (h1 : items.length = pre.length + 2) (h2 : BOk p items) (h3 : k = 2 + (pre.length : Int)) (h4 : pre.length < ((p.length : Int) + 1 - 2).toNat) :
    (items.length : Int) = k ∧ BOk p items ∧ 0 ≤ items.getD (k - 1).toNat 0 ∧ items.getD (k - 1).toNat 0 < k - 1 ∧ BWd p k (items.getD (k - 1).toNat 0) := by
  have h := h2 (k - 1) (by omega) (by omega)
  exact ⟨by omega, h2, h.1, h.2.1, by omega, by omega, srch_bd h (by omega)⟩
theorem bws1 {p : Str} {items : List Int} {k here : Int} (h1 : (items.length : Int) = k) (h2 : BOk p items) (h3 : 0 ≤ here) (h4 : here < k - 1) (h5 : BWd p k here) (h6 : 0 < here)
    (h7 : (Txt.slice p (some (here + 1 - 1)) (some (here + 1 - 1 + 1)) == Txt.slice p (some (k - 1)) (some (k - 1 + 1))) = false) :
    (items.length : Int) = k ∧ BOk p items ∧ 0 ≤ items.getD here.toNat 0 ∧ items.getD here.toNat 0 < k - 1 ∧ BWd p k (items.getD here.toNat 0) := by
  have h := h2 here (by omega) (by omega)
  refine ⟨h1, h2, h.1, by have := h.2.1; omega, h5.1, h5.2.1, srch_fall h5.2.2 (fun e => ?_) h⟩
  have e1 : k - 1 + 1 = k := by omega
  rw [e1] at e
  rw [(sign_eq (by omega) (by have := h5.2.1; omega) (by omega) (by exact h5.2.1)).mpr e] at h7
  cases h7
theorem bws1m {p : Str} {items : List Int} {here : Int} {k : Int} (h1 : (items.length : Int) = k) (h2 : BOk p items) (h4 : here < k - 1) (h6 : 0 < here) : (items.getD here.toNat 0).toNat < here.toNat := by
  have h := h2 here (by omega) (by omega)
  have := h.2.1
  have := h.1
  omega
theorem bst1 {p : Str} {items pre : List Int} {k here : Int} {v : Int} (h0 : items.length = pre.length + 2) (h1 : (items.length : Int) = k) (h2 : BOk p items) (h5 : BWd p k here)
    (h : (v = 1 ∧ ch p (here + 1) = ch p k) ∨ (v = 0 ∧ here = 0 ∧ ch p (here + 1) ≠ ch p k)) :
    (items ++ [here + v]).length = (pre ++ [k]).length + 2 ∧ BOk p (items ++ [here + v]) := by
  refine ⟨by simp only [List.length_append, List.length_singleton]; omega, fun q q1 q2 => ?_⟩
  rw [List.length_append, List.length_singleton] at q2
  have e1 : k - 1 + 1 = k := by omega
  by_cases e : q < items.length
  · have : (items ++ [here + v]).getD q.toNat 0 = items.getD q.toNat 0 := by
      rw [List.getD_eq_getElem?_getD, List.getD_eq_getElem?_getD, List.getElem?_append_left (by omega)]
    rw [this]
    exact h2 q q1 e
  · have e2 : q = k := by omega
    subst e2
    have : (items ++ [here + v]).getD q.toNat 0 = here + v := by
      rw [List.getD_eq_getElem?_getD, List.getElem?_append_right (by omega)]
      have : q.toNat - items.length = 0 := by omega
      rw [this]; rfl
    rw [this]
    rcases h with ⟨rfl, hm⟩ | ⟨rfl, rfl, hm⟩
    · exact maxBd_of (srch_met h5.2.2 (by rw [e1]; exact hm))
    · exact maxBd_of (srch_none h5.2.2 (by rw [e1]; exact hm))
theorem bws1' {p : Str} {items : List Int} {k here : Int} (h1 : (items.length : Int) = k) (h2 : BOk p items) (h3 : 0 ≤ here) (h4 : here < k - 1) (h5 : BWd p k here) (h6 : 0 < here)
    (h7 : (Txt.slice p (some (here + 1 - 1)) (some (here + 1 - 1 + 1)) != Txt.slice p (some (k - 1)) (some (k - 1 + 1))) = true) :
    (items.length : Int) = k ∧ BOk p items ∧ 0 ≤ items.getD here.toNat 0 ∧ items.getD here.toNat 0 < k - 1 ∧ BWd p k (items.getD here.toNat 0) :=
  bws1 h1 h2 h3 h4 h5 h6 (by rw [bne] at h7; simpa using h7)
theorem bsgn {p : Str} {k here : Int} (h5 : BWd p k here) :
    (Txt.slice p (some (here + 1 - 1)) (some (here + 1 - 1 + 1)) == Txt.slice p (some (k - 1)) (some (k - 1 + 1))) = true ↔ ch p (here + 1) = ch p k :=
  sign_eq (by have := h5.2.2.1; omega) (by have := h5.2.2.2.1; have := h5.2.1; omega) (by have := h5.1; omega) h5.2.1
theorem bst1a {p : Str} {items pre : List Int} {k here : Int} (h0 : items.length = pre.length + 2) (h1 : (items.length : Int) = k) (h2 : BOk p items) (h5 : BWd p k here)
    (h7 : (Txt.slice p (some (here + 1 - 1)) (some (here + 1 - 1 + 1)) != Txt.slice p (some (k - 1)) (some (k - 1 + 1))) = false) :
    (items ++ [here + if (Txt.slice p (some (here + 1 - 1)) (some (here + 1 - 1 + 1)) == Txt.slice p (some (k - 1)) (some (k - 1 + 1))) = true then 1 else 0]).length = (pre ++ [k]).length + 2 ∧ BOk p (items ++ [here + if (Txt.slice p (some (here + 1 - 1)) (some (here + 1 - 1 + 1)) == Txt.slice p (some (k - 1)) (some (k - 1 + 1))) = true then 1 else 0]) := by
  have h8 : (Txt.slice p (some (here + 1 - 1)) (some (here + 1 - 1 + 1)) == Txt.slice p (some (k - 1)) (some (k - 1 + 1))) = true := by rw [bne] at h7; simpa using h7
  rw [if_pos h8]
  exact bst1 h0 h1 h2 h5 (.inl ⟨rfl, (bsgn h5).mp h8⟩)
theorem bst1b {p : Str} {items pre : List Int} {k here : Int} (h0 : items.length = pre.length + 2) (h1 : (items.length : Int) = k) (h2 : BOk p items) (h5 : BWd p k here) (h3 : 0 ≤ here) (h6 : ¬ 0 < here) :
    (items ++ [here + if (Txt.slice p (some (here + 1 - 1)) (some (here + 1 - 1 + 1)) == Txt.slice p (some (k - 1)) (some (k - 1 + 1))) = true then 1 else 0]).length = (pre ++ [k]).length + 2 ∧ BOk p (items ++ [here + if (Txt.slice p (some (here + 1 - 1)) (some (here + 1 - 1 + 1)) == Txt.slice p (some (k - 1)) (some (k - 1 + 1))) = true then 1 else 0]) := by
  by_cases h8 : (Txt.slice p (some (here + 1 - 1)) (some (here + 1 - 1 + 1)) == Txt.slice p (some (k - 1)) (some (k - 1 + 1))) = true
  · rw [if_pos h8]
    exact bst1 h0 h1 h2 h5 (.inl ⟨rfl, (bsgn h5).mp h8⟩)
  · rw [if_neg h8]
    exact bst1 h0 h1 h2 h5 (.inr ⟨rfl, by omega, fun e => h8 ((bsgn h5).mpr e)⟩)
end Mine
namespace Mine
set_option maxRecDepth 100000
set_option maxHeartbeats 8000000
local macro_rules | `(tactic| k_room) => `(tactic| ((simp only [depth_under_make, depth_under_kw, depth_in1, depth_deeper, depth_caller]); (try dsimp only [ktrTop]); omega))
local macro_rules | `(tactic| walk_at "call ref") => `(tactic| (k_dflt ((show wpAny _ _ (PySem.call (Value.ref 128) _) _ _ _); (refine' sign_c _ _ _ _ _ ?zh0 ?zh1 ?zh2 _ _ _ _ _ _ _ _ _ _ _ _ _ _ _ _ _ _ _ _ _ ?zB ?zF ?zX ?zN ?zT ?zK ?zd ?zu ?_); (case zB => k_asm); (case zF => k_asm); (case zX => k_asm); (case zN => k_asm); (case zT => k_asm); (case zK => first | exact rfl | assumption); (case zd => ktr_room); (case zu => ktr_units); (case zh0 => omega); (case zh1 => omega); (case zh2 => omega); intro r9 news9 h' tk' hR9 F' N'; obtain ⟨hE9, tk9, hV9⟩ := hR9; subst hE9; subst hV9; (try dsimp only); (try k_fold))))
local macro_rules | `(tactic| walk_at "pyIter ref") => `(tactic| k_extra "my iter")
local macro_rules | `(tactic| walk_at "exec While") => `(tactic| k_extra "my while")
local macro_rules | `(tactic| walk_at "exec While BoolOp cons nil") => `(tactic| k_extra "my while")

theorem borders_c (w : World) (p : Str) (u : Tok) (hp : p.length ≤ 255) (hp1 : 1 ≤ p.length) (news : List (Addr × Obj)) :
    Fn w 20 135 [.str p u] news (fun r news' => ∃ l vs bs n, r = .ref l ∧ news' = (l, listOf vs.toArray n) :: news ∧ IntsAre vs bs ∧ (bs.length : Int) = p.length + 1 ∧ BOk p bs) := by
  unfold Fn
  k_fill
  k_with_none
  k_with "my iter" => ((rename Fr _ _ _ _ => lF'); (rename News _ _ _ _ => lN'); (rename IsRange _ _ _ _ _ _ _ _ => rgX); k_dflt (refine' kst_range (σ := List Value × List Int × Nat) (fun c => (_, listOf c.1.toArray c.2.2) :: news) (fun _ => []) (fun c => IntsAre c.1 c.2.1) [Str.ofString "here"] (fun pre c => c.2.1.length = pre.length + 2 ∧ BOk p c.2.1) ([.int 0 _, .int 0 _], [0, 0], 0) (by rfl) (by exact rgX) (small_one (by omega) (by omega) (by omega) (by omega)) (rangeSize_nat _ _) lF' lN' (.cons _ _ (.cons _ _ .nil)) (List.forall_mem_nil _) (bst0 p) ?_ ?_); (case' refine'_1 => (rintro ⟨kV, kI, kM⟩ kPre kN kT kU kH kTk kOwn kEq kLt kOff kFacts ⟨kI1, kI2⟩ kFr kNews)); (case' refine'_2 => (rintro ⟨kV, kI, kM⟩ kU kH kTk kFacts ⟨kI1, kI2⟩ kFr kNews)); (all_goals ((have kMark := kstMark); (try dsimp only [kstB] at kFr); (try dsimp only at kNews kFacts kI1 kI2); (try simp only [List.cons_append] at kNews); (try simp only [List.map_cons, List.map_nil] at kOff); (try k_fold))))
  k_with "my while" => ((rename Fr _ _ _ _ => lF'); (rename News _ _ _ _ => lN'); k_dflt (refine' ksw_while (σ := Int × Nat) (fun _ => _) (fun c => [(Str.ofString "here", .int c.1 c.2)]) (fun _ => True) [] (fun c => (kI.length : Int) = kN ∧ BOk p kI ∧ 0 ≤ c.1 ∧ c.1 < kN - 1 ∧ BWd p kN c.1) (fun c => c.1.toNat) (kI.getD (kN - 1).toNat 0, _) lF' lN' trivial (List.forall_mem_cons.mpr ⟨if_pos rfl, List.forall_mem_nil _⟩) (bws0 kI1 kI2 kEq kLt) ?_); (rintro ⟨kW, kWt⟩ kU2 kH2 kTk2 kFacts2 ⟨kJ1, kJ2, kJ3, kJ4, kJ5⟩ kFr2 kNews2); (try dsimp only [kstB] at kFr2); (try dsimp only at kNews2 kJ1 kJ2 kJ3 kJ4 kJ5); (try k_fold))
  k_with "state" => first | exact bws1' (by assumption) (by assumption) (by assumption) (by assumption) (by assumption) (by assumption) (by assumption) | exact bst1a (by assumption) (by assumption) (by assumption) (by assumption) (by assumption) | exact bst1b (by assumption) (by assumption) (by assumption) (by assumption) (by assumption) (by assumption)
  k_with "measure" => exact bws1m (by assumption) (by assumption) (by assumption) (by assumption)
  intro mean mg mb dp un gd cn cs a ccd cl outer A₀ base h₀ L m s Q E B F X N T hk hdp hun hret
  refine wpAny_call ?_
  k_dflt cell_enter
  k_steps
  refine' hret _ _ _ _ ?e1 ?e2 ?e3
  case e2 => assumption
  case e3 => assumption
  case e1 => exact ⟨_, _, _, _, rfl, rfl, by assumption, by rw [kI1, rangeKs_length]; omega, by assumption⟩
end Mine
namespace Mine
/-- the part ends at the place e of the text -/
def OccE (x p : Str) (e : Int) : Prop := Sf (ch p) (ch x) e p.length
open Classical in
/-- the places, up to k, at which the part ends -/
noncomputable def endsL (x p : Str) : Nat → List Int
  | 0 => []
  | k + 1 => if OccE x p ((k + 1 : Nat) : Int) then endsL x p k ++ [((k + 1 : Nat) : Int)] else endsL x p k
theorem endsL_yes {x p : Str} {k : Nat} (h : OccE x p ((k + 1 : Nat) : Int)) : endsL x p (k + 1) = endsL x p k ++ [((k + 1 : Nat) : Int)] := by
  rw [endsL, if_pos h]
theorem endsL_no {x p : Str} {k : Nat} (h : ¬ OccE x p ((k + 1 : Nat) : Int)) : endsL x p (k + 1) = endsL x p k := by
  rw [endsL, if_neg h]
theorem endsL_same {x p : Str} {j : Nat} : ∀ {k : Nat}, j ≤ k → (∀ e : Int, (j : Int) < e → e ≤ k → ¬ OccE x p e) → endsL x p k = endsL x p j
  | 0, h, _ => by have : j = 0 := by omega
                  rw [this]
  | k + 1, h, hn => by
    by_cases e : j = k + 1
    · rw [e]
    · rw [endsL_no (hn _ (by omega) (by omega))]
      exact endsL_same (by omega) fun e h1 h2 => hn e h1 (by omega)

structure LInv (x p : Str) (k : Nat) (st lk : Int) (ends : List Int) : Prop where
  f1 : MaxSf (ch p) (ch x) k p.length st
  f2 : 0 ≤ lk
  f3 : lk + st ≤ 2 * k
  f4 : ends = endsL x p k
structure SInv (x p : Str) (a : Int) (n : Nat) (st lk : Int) : Prop where
  f1 : Srch (ch p) (ch x) (a - 1) p.length st
  f2 : st ≤ p.length - 1 - n
  f3 : 0 ≤ lk
  f4 : lk + st ≤ 2 * (a - 1)
structure LMid (x p : Str) (a : Int) (st lk : Int) : Prop where
  f1 : MaxSf (ch p) (ch x) a p.length st
  f2 : 0 ≤ lk
  f3 : lk + st ≤ 2 * a
theorem linv0 (x p : Str) : LInv x p ([] : List Int).length 0 0 [] :=
  ⟨⟨by decide, by omega, sf_zero _ _ _, fun k h1 _ h3 => absurd (sf_le (by omega) h3) (by simp only [List.length_nil]; omega)⟩, by decide, by simp, rfl⟩
theorem sinvA {x p : Str} {k : Nat} {a st lk : Int} {ends : List Int} (h : LInv x p k st lk ends) (ha : a = 1 + (k : Int)) (hn : st ≠ p.length) : SInv x p a ([] : List Int).length st lk := by
  obtain ⟨h1, h2, h3, _⟩ := h
  have e : a - 1 = (k : Int) := by omega
  have := h1.2.1
  refine ⟨by rw [e]; exact srch_start h1 (by omega), by simp only [List.length_nil]; omega, h2, by omega⟩
theorem sinvB {x p : Str} {k : Nat} {a st lk : Int} {ends bI : List Int} (h : LInv x p k st lk ends) (ha : a = 1 + (k : Int)) (hn : st = p.length) (hp : 1 ≤ p.length) (hb : BOk p bI) (hl : (bI.length : Int) = p.length + 1) :
    SInv x p a ([] : List Int).length (bI.getD st.toNat 0) lk := by
  obtain ⟨h1, h2, h3, _⟩ := h
  have e : a - 1 = (k : Int) := by omega
  have hr := hb st (by omega) (by omega)
  have := hr.2.1
  subst hn
  refine ⟨by rw [e]; exact srch_start_full h1 hr, by simp only [List.length_nil]; omega, h2, by omega⟩
theorem sgn_at {x p : Str} {a st : Int} (hx1 : 1 ≤ a) (hx2 : a ≤ x.length) (h0 : 0 ≤ st) (h1 : st < p.length) :
    (Txt.slice p (some (st + 1 - 1)) (some (st + 1 - 1 + 1)) == Txt.slice x (some (a - 1)) (some (a - 1 + 1))) = true ↔ ch p (st + 1) = ch x (a - 1 + 1) := by
  have e : a - 1 + 1 = a := by omega
  rw [sign_eq (by omega) (by omega) hx1 hx2, e]
theorem sinv_fall {x p : Str} {a st lk : Int} {bI pre : List Int} {j : Int} (hs : SInv x p a pre.length st lk) (hx1 : 1 ≤ a) (hx2 : a ≤ x.length) (hb : BOk p bI) (hl : (bI.length : Int) = p.length + 1)
    (hm : ¬ (Txt.slice p (some (st + 1 - 1)) (some (st + 1 - 1 + 1)) == Txt.slice x (some (a - 1)) (some (a - 1 + 1))) = true) (h0 : ¬ st = 0) :
    SInv x p a (pre ++ [j]).length (bI.getD st.toNat 0) (lk + 1) := by
  obtain ⟨h1, h2, h3, h4⟩ := hs
  have q0 := h1.1
  have q1 := h1.2.1
  have hr := hb st (by omega) (by omega)
  have := hr.2.1
  rw [sgn_at hx1 hx2 q0 q1] at hm
  refine ⟨srch_fall h1 hm hr, by simp only [List.length_append, List.length_singleton]; omega, by omega, by omega⟩
theorem lmid_met {x p : Str} {a st lk : Int} {n : Nat} (hs : SInv x p a n st lk) (hx1 : 1 ≤ a) (hx2 : a ≤ x.length)
    (hm : (Txt.slice p (some (st + 1 - 1)) (some (st + 1 - 1 + 1)) == Txt.slice x (some (a - 1)) (some (a - 1 + 1))) = true) : LMid x p a (st + 1) (lk + 1) := by
  obtain ⟨h1, h2, h3, h4⟩ := hs
  rw [sgn_at hx1 hx2 h1.1 h1.2.1] at hm
  have h := srch_met h1 hm
  have e : a - 1 + 1 = a := by omega
  rw [e] at h
  exact ⟨h, by omega, by omega⟩
theorem lmid_none {x p : Str} {a st lk : Int} {n : Nat} (hs : SInv x p a n st lk) (hx1 : 1 ≤ a) (hx2 : a ≤ x.length) (h0 : st = 0)
    (hm : ¬ (Txt.slice p (some (st + 1 - 1)) (some (st + 1 - 1 + 1)) == Txt.slice x (some (a - 1)) (some (a - 1 + 1))) = true) : LMid x p a (st + 0) (lk + 1) := by
  obtain ⟨h1, h2, h3, h4⟩ := hs
  rw [sgn_at hx1 hx2 h1.1 h1.2.1] at hm
  subst h0
  have h := srch_none h1 hm
  have e : a - 1 + 1 = a := by omega
  rw [e] at h
  exact ⟨h, by omega, by omega⟩
/-- what LEFT$ and RIGHT$ say is the greatest beginning -/
theorem long_eq {x p : Str} {a m k q : Int} (ha : 0 ≤ a) (hx : a ≤ x.length) (hm : m ≤ p.length) (h : MaxSf (ch p) (ch x) a m q) (hl : Longest (Txt.slice x none (some a)) p m k) : q = k := by
  obtain ⟨h1, h2, h3, h4⟩ := h
  obtain ⟨l1, l2, l3⟩ := hl
  have len := len_take ha hx
  have same : ∀ j : Int, 0 ≤ j → j ≤ a → j ≤ p.length → (Suf (Txt.slice x none (some a)) p j ↔ Sf (ch p) (ch x) a j) := by
    intro j j1 j2 j3
    rw [suf_iff j1 (by omega) j3, len]
    constructor
    · intro h i i1 i2
      rw [h i i1 i2, ch_take ha hx (by omega) (by omega)]
    · intro h i i1 i2
      rw [h i i1 i2, ch_take ha hx (by omega) (by omega)]
  by_cases e1 : k < q
  · have hq := sf_le (by omega) h3
    exact absurd ((same q h1 hq (by omega)).mpr h3) (l3 q e1 h2 (by omega))
  · by_cases e2 : q < k
    · rcases l2 with e | ⟨a1, a2, a3⟩
      · omega
      · exact absurd ((same k l1 (by omega) (by omega)).mp a3) (h4 k e2 a1)
    · omega
theorem bd_eq {p : Str} {bI : List Int} {many k : Int} (hb : BOk p bI) (hl : (bI.length : Int) = p.length + 1) (h2 : 2 ≤ many) (hp : many ≤ p.length) (h : Longest (Txt.slice p none (some many)) p (many - 1) k) : bI.getD many.toNat 0 = k := by
  obtain ⟨r1, r2, r3, r4⟩ := hb many (by omega) (by omega)
  exact long_eq (by omega) hp (by omega) ⟨r1, by omega, r3, fun j j1 j2 => r4 j j1 (by omega)⟩ h
theorem mid_eq {x p : Str} {a st lk k : Int} (h : LMid x p a st lk) (h1 : 0 ≤ a) (h2 : a ≤ x.length) {m : Int} (hm : m = p.length) (hl : Longest (Txt.slice x none (some a)) p m k) : st = k := by
  subst hm
  exact long_eq h1 h2 (Int.le_refl _) h.1 hl
theorem linv_yes {x p : Str} {a st lk : Int} {pre ends : List Int} (h : LMid x p a st lk) (ha : a = 1 + (pre.length : Int)) (he : ends = endsL x p pre.length) (hs : st = p.length) : LInv x p (pre ++ [a]).length st lk (ends ++ [a]) := by
  have e : ((pre.length + 1 : Nat) : Int) = a := by omega
  have hk : (pre ++ [a]).length = pre.length + 1 := by simp
  rw [hk]
  subst hs
  refine ⟨by rw [e]; exact h.1, h.2, by have := h.3; omega, ?_⟩
  rw [endsL_yes (by rw [e]; exact h.1.2.2.1), e, he]
theorem linv_no {x p : Str} {a st lk : Int} {pre ends : List Int} (h : LMid x p a st lk) (ha : a = 1 + (pre.length : Int)) (he : ends = endsL x p pre.length) (hs : ¬ st = p.length) : LInv x p (pre ++ [a]).length st lk ends := by
  have e : ((pre.length + 1 : Nat) : Int) = a := by omega
  have hk : (pre ++ [a]).length = pre.length + 1 := by simp
  rw [hk]
  refine ⟨by rw [e]; exact h.1, h.2, by have := h.3; omega, ?_⟩
  have := h.1.2.1
  rw [endsL_no (by rw [e]; exact h.1.2.2.2 _ (by omega) (Int.le_refl _)), he]

/-- the search by INSTR: what is found so far -/
def WInv (x p : Str) (b : Int) (places : List Int) : Prop :=
  (b = 0 ∧ places = endsL x p x.length) ∨ (1 ≤ b ∧ b + p.length - 1 ≤ x.length ∧ OccE x p (b + p.length - 1) ∧ places = endsL x p (b + p.length - 2).toNat)
def wmu (x : Str) (b : Int) : Nat := if b ≤ 0 then 0 else ((x.length : Int) + 2 - b).toNat
theorem occE_of {x p : Str} {e : Int} (hp : 1 ≤ p.length) (h2 : e ≤ x.length) (h : OccE x p e) : (p.length : Int) ≤ e ∧ Occ x p (e - p.length) := by
  have h1 : (p.length : Int) ≤ e := sf_le (by omega) h
  refine ⟨h1, (occ_iff (by omega) (by omega)).mpr ?_⟩
  have q : e - (p.length : Int) + p.length = e := by omega
  rw [q]; exact h
theorem winv_of {x p : Str} {b r : Int} (hp : 1 ≤ p.length) (hb : 1 ≤ b) (h : Found x p b r) {places : List Int} (hpl : places = endsL x p (b + p.length - 2).toNat) (hbx : b + p.length - 2 ≤ x.length) : WInv x p r places := by
  rcases h with ⟨rfl, hn⟩ | ⟨a, a1, a2, rfl, a3, a4⟩
  · refine .inl ⟨rfl, ?_⟩
    rw [hpl]
    symm
    exact endsL_same (by omega) fun e e1 e2 ho => by
      have := occE_of hp e2 ho
      exact hn (e - p.length) (by omega) (by omega) this.2
  · refine .inr ⟨by omega, by omega, ?_, ?_⟩
    · have q : a + 1 + (p.length : Int) - 1 = a + p.length := by omega
      rw [q]
      exact (occ_iff (by omega) (by omega)).mp a3
    · rw [hpl]
      symm
      exact endsL_same (by omega) fun e e1 e2 ho => by
        have := occE_of hp (by omega) ho
        exact a4 (e - p.length) (by omega) (by omega) this.2
theorem winv0 {x p : Str} {r : Int} (hp : 1 ≤ p.length) (hpx : (p.length : Int) - 1 ≤ x.length) (h : Found x p 1 r) : WInv x p r [] := by
  refine winv_of hp (by decide) h ?_ (by omega)
  have q := @endsL_same x p 0 (1 + (p.length : Int) - 2).toNat (by omega) (fun e e1 e2 ho => by
    have := occE_of hp (by omega) ho
    omega)
  rw [q]; rfl
theorem winv_step {x p : Str} {b r : Int} {places : List Int} (hp : 1 ≤ p.length) (h : WInv x p b places) (hb : 0 < b) (hf : Found x p (b + 1) r) : WInv x p r (places ++ [b + p.length - 1]) := by
  rcases h with ⟨e, _⟩ | ⟨h1, h2, h3, h4⟩
  · omega
  · refine winv_of hp (by omega) hf ?_ (by omega)
    have q : (b + 1 + (p.length : Int) - 2).toNat = (b + p.length - 2).toNat + 1 := by omega
    have q2 : (((b + p.length - 2).toNat + 1 : Nat) : Int) = b + p.length - 1 := by omega
    rw [q, endsL_yes (by rw [q2]; exact h3), q2, h4]
theorem winv_mu {x p : Str} {b r : Int} {places : List Int} (hp : 1 ≤ p.length) (h : WInv x p b places) (hb : 0 < b) (hf : Found x p (b + 1) r) : wmu x r < wmu x b := by
  rcases h with ⟨e, _⟩ | ⟨h1, h2, h3, h4⟩
  · omega
  · have e : wmu x b = ((x.length : Int) + 2 - b).toNat := if_neg (by omega)
    rw [e]
    rcases hf with ⟨rfl, hn⟩ | ⟨a, a1, a2, rfl, a3, a4⟩
    · have e0 : wmu x 0 = 0 := if_pos (Int.le_refl _)
      omega
    · have e1 : wmu x (a + 1) = ((x.length : Int) + 2 - (a + 1)).toNat := if_neg (by omega)
      omega
theorem winv_le {x p : Str} {b : Int} {places : List Int} (hp : 1 ≤ p.length) (h : WInv x p b places) : 0 ≤ b ∧ b ≤ x.length := by
  rcases h with ⟨e, _⟩ | ⟨h1, h2, h3, h4⟩ <;> omega
theorem winv_end {x p : Str} {b : Int} {places : List Int} (h : WInv x p b places) (hb : ¬ 0 < b) : places = endsL x p x.length := by
  rcases h with ⟨_, e⟩ | ⟨h1, _⟩
  · exact e
  · omega
theorem winv_step' {x p : Str} {b r v : Int} {places : List Int} (hp : 1 ≤ p.length) (h : WInv x p b places) (hb : 0 < b) (hf : Found x p (b + 1) r) (hv : v = b + p.length - 1) : WInv x p r (places ++ [v]) := by
  subst hv; exact winv_step hp h hb hf
theorem lmid_T {x p : Str} {a st lk : Int} {n : Nat} (hs : SInv x p a n st lk) (hx1 : 1 ≤ a) (hx2 : a ≤ x.length)
    (hm : (Txt.slice p (some (st + 1 - 1)) (some (st + 1 - 1 + 1)) == Txt.slice x (some (a - 1)) (some (a - 1 + 1))) = true) :
    LMid x p a (st + if (Txt.slice p (some (st + 1 - 1)) (some (st + 1 - 1 + 1)) == Txt.slice x (some (a - 1)) (some (a - 1 + 1))) = true then 1 else 0) (lk + 1) := by
  rw [if_pos hm]; exact lmid_met hs hx1 hx2 hm
theorem lmid_F {x p : Str} {a st lk : Int} {n : Nat} (hs : SInv x p a n st lk) (hx1 : 1 ≤ a) (hx2 : a ≤ x.length) (h0 : st = 0) 
    (hm : (Txt.slice p (some (st + 1 - 1)) (some (st + 1 - 1 + 1)) == Txt.slice x (some (a - 1)) (some (a - 1 + 1))) = false) :
    LMid x p a (st + if (Txt.slice p (some (st + 1 - 1)) (some (st + 1 - 1 + 1)) == Txt.slice x (some (a - 1)) (some (a - 1 + 1))) = true then 1 else 0) (lk + 1) := by
  have hm' : ¬ (Txt.slice p (some (st + 1 - 1)) (some (st + 1 - 1 + 1)) == Txt.slice x (some (a - 1)) (some (a - 1 + 1))) = true := by rw [hm]; decide
  rw [if_neg hm']; exact lmid_none hs hx1 hx2 h0 hm'
theorem sinv_fall' {x p : Str} {a st lk : Int} {bI pre : List Int} {j : Int} (hs : SInv x p a pre.length st lk) (hx1 : 1 ≤ a) (hx2 : a ≤ x.length) (hb : BOk p bI) (hl : (bI.length : Int) = p.length + 1)
    (hm : (Txt.slice p (some (st + 1 - 1)) (some (st + 1 - 1 + 1)) == Txt.slice x (some (a - 1)) (some (a - 1 + 1))) = false) (h0 : ¬ st = 0) :
    SInv x p a (pre ++ [j]).length (bI.getD st.toNat 0) (lk + 1) := sinv_fall hs hx1 hx2 hb hl (by rw [hm]; decide) h0
theorem sinv_not {x p : Str} {a st lk : Int} {n : Nat} (h : SInv x p a n st lk) (hn : (n : Int) ≥ p.length) : False := by
  have h1 := h.1.1
  have h2 := h.2
  omega
theorem news_tail {h₀ h : Heap} {L : Addr} {p : Addr × Obj} {l : List (Addr × Obj)} (N : News h₀ L h (p :: l)) : News h₀ L h l := fun q hq => N q (.tail _ hq)
theorem sinvA' {x p : Str} {k : Nat} {a st lk n : Int} {ends : List Int} (hn : n = p.length) (h : LInv x p k st lk ends) (ha : a = 1 + (k : Int)) (hs : ¬ st = n) : SInv x p a ([] : List Int).length st lk := by
  subst hn; exact sinvA h ha hs
theorem sinvB' {x p : Str} {k : Nat} {a st lk n : Int} {ends bI : List Int} (hn : n = p.length) (h : LInv x p k st lk ends) (ha : a = 1 + (k : Int)) (hs : st = n) (hp : 1 ≤ p.length) (hb : BOk p bI) (hl : (bI.length : Int) = p.length + 1) :
    SInv x p a ([] : List Int).length (bI.getD st.toNat 0) lk := by
  subst hn; exact sinvB h ha hs hp hb hl
theorem linv_yes' {x p : Str} {a st lk n : Int} {pre ends : List Int} (hn : n = p.length) (h : LMid x p a st lk) (ha : a = 1 + (pre.length : Int)) (he : ends = endsL x p pre.length) (hs : st = n) : LInv x p (pre ++ [a]).length st lk (ends ++ [a]) := by
  subst hn; exact linv_yes h ha he hs
theorem linv_no' {x p : Str} {a st lk n : Int} {pre ends : List Int} (hn : n = p.length) (h : LMid x p a st lk) (ha : a = 1 + (pre.length : Int)) (he : ends = endsL x p pre.length) (hs : ¬ st = n) : LInv x p (pre ++ [a]).length st lk ends := by
  subst hn; exact linv_no h ha he hs
theorem winv_stepn {x p : Str} {b r n : Int} {places : List Int} (hn : n = p.length) (hp : 1 ≤ p.length) (h : WInv x p b places) (hb : 0 < b) (hf : Found x p (b + 1) r) : WInv x p r (places ++ [b + n - 1]) := by
  subst hn; exact winv_step hp h hb hf
theorem ends_eq {x p : Str} {b : Int} {k : Nat} {st lk : Int} {places ends : List Int} (h : WInv x p b places) (hb : ¬ 0 < b) (hl : LInv x p k st lk ends) (hk : k = x.length) : places = ends := by
  rw [winv_end h hb, hl.f4, hk]
theorem endsL_len (x p : Str) : ∀ k, (endsL x p k).length ≤ k
  | 0 => Nat.le_refl _
  | k + 1 => by
    have h := endsL_len x p k
    by_cases e : OccE x p ((k + 1 : Nat) : Int)
    · rw [endsL_yes e, List.length_append, List.length_singleton]; omega
    · rw [endsL_no e]; omega
theorem winv_size {x p : Str} {b : Int} {places : List Int} {vs : List Value} (hv : IntsAre vs places) (hx : x.length ≤ 255) (h : WInv x p b places) : vs.toArray.size ≤ sizeLine := by
  have h1 : places.length ≤ x.length := by
    rcases h with ⟨_, e⟩ | ⟨h1, h2, _, e⟩
    · rw [e]; exact endsL_len _ _ _
    · rw [e]; exact Nat.le_trans (endsL_len _ _ _) (by omega)
  rw [List.size_toArray, IntsAre.length hv, PySem.sizeLine_eq]
  omega
theorem linv_looks {x p : Str} {k : Nat} {st lk : Int} {ends : List Int} (h : LInv x p k st lk ends) (hk : k = 9) : lk ≤ 18 := by
  have h1 := h.1.1
  have h3 := h.3
  subst hk
  omega
theorem linv_size {x p : Str} {k : Nat} {st lk : Int} {ends : List Int} {vs : List Value} (hv : IntsAre vs ends) (h : LInv x p k st lk ends) (hk : k ≤ 255) : vs.toArray.size ≤ sizeLine := by
  have h1 := endsL_len x p k
  rw [List.size_toArray, IntsAre.length hv, h.f4, PySem.sizeLine_eq]
  omega
end Mine
namespace Mine
def AbEl (b l : Addr) (i : Int) (nn : Nat) (rest : List (Addr × Obj)) (y : Value) (news' : List (Addr × Obj)) : Prop :=
  ∃ (c : Str) (t t' : Tok), c.length = 1 ∧ y = .str c t ∧ news' = (b, listOf #[.ref l, .int (i + 1) t'] nn) :: rest
theorem strs_snoc {y : Str} {t : Tok} : ∀ {vs : List Value} {ys : List Str}, StrsAre vs ys → StrsAre (vs ++ [.str y t]) (ys ++ [y])
  | _, _, .nil => .cons y t .nil
  | _, _, .cons z u r => .cons z u (strs_snoc r)
section
variable {prog : Program} {w : World} {A : Around} {h₀ : Heap} {L : Addr} {m : Str → Option Value} {env : Env} {elt : Expr} {x : Str} {scope : Scope} {cl : List (Str × Addr)} {s : Shared} {S : List (Addr × Obj) → Prop} {P : Nat → Value → Prop} {Fin : List Value → List (Addr × Obj) → Prop}
/-- a list comprehension whose element is a text of one sign and turns the int of a list (a ref, an int) by one -/
theorem comp_ab {n : Nat} {b l : Addr} {i0 : Int} {t0 : Tok} {nn : Nat} {rest : List (Addr × Obj)}
    (turn : ∀ (i : Int) t₀ I oI C oC D m₂ ys h tk (E' : Value → Shared → Prop), i0 ≤ i → i < i0 + n → LCg.NsObj oC m₂ → Fr h₀ L h m → News h₀ L h ((I, oI) :: (C, oC) :: (D, LCg.lst ys) :: (b, listOf #[.ref l, .int i t₀] nn) :: rest) →
      LCg.Off3 I C D ((b, listOf #[.ref l, .int i t₀] nn) :: rest) → ((@Ne Nat I C) ∧ (@Ne Nat I D) ∧ (@Ne Nat C D)) →
      wpAny (model prog w) A (eval elt (compEnvC scope cl C env)) (LCg.CompEnd h₀ L m { s with heap := h, toks := tk } I oI C oC D (LCg.lst ys) S (fun y news' => AbEl b l i nn rest y news')) E' { s with heap := h, toks := tk })
    (fin : ∀ ys (xs : List Str) t, CarriedAll ys (xs.map fun a => PyData.str ((fun a => a) a)) → xs.length = n → (∀ a ∈ xs, ((fun a : Str => a) a).length = 1) → Fin ys ((b, listOf #[.ref l, .int (i0 + n) t] nn) :: rest)) :
    LCg.CompRest prog w A h₀ L m env elt x scope cl s S P Fin n 0 [] ((b, listOf #[.ref l, .int i0 t0] nn) :: rest) := by
  have key : ∀ (j : Nat) (k : Nat) (ys : List Value) (xs : List Str) (t : Tok), k + j = n → StrsAre ys xs → xs.length = k → (∀ a ∈ xs, a.length = 1) →
      LCg.CompRest prog w A h₀ L m env elt x scope cl s S P Fin j k ys ((b, listOf #[.ref l, .int (i0 + k) t] nn) :: rest) := by
    intro j
    induction j with
    | zero =>
      intro k ys xs t hk hy hl h1
      have e : k = n := by omega
      subst e
      exact LCg.CompRest.zero (fin ys xs t hy.carried hl h1)
    | succ j ih =>
      intro k ys xs t hk hy hl h1
      refine LCg.CompRest.succ ?_
      intro v I oI C oC D m₂ h tk E' hv hC hx F N off ne
      refine wpAny_mono (turn (i0 + k) t I oI C oC D m₂ ys h tk E' (by omega) (by omega) hC F N off ne) (fun y s₂ hq => ?_) fun _ _ e => e
      obtain ⟨h', tk', nw, e, F', N', off', hS, c, tc, t', hc, hy', hn⟩ := hq
      refine ⟨h', tk', nw, e, F', N', off', hS, ?_⟩
      rw [hy', hn]
      have e2 : i0 + (k : Int) + 1 = i0 + ((k + 1 : Nat) : Int) := by omega
      rw [e2]
      refine ih (k + 1) _ (xs ++ [c]) t' (by omega) (strs_snoc hy) (by rw [List.length_append, List.length_singleton, hl]) (fun a ha => ?_)
      rcases List.mem_append.mp ha with ha | ha
      · exact h1 a ha
      · rw [List.mem_singleton.mp ha]; exact hc
  have := key n 0 [] [] t0 (by omega) .nil rfl (fun a ha => nomatch ha)
  simpa using this
theorem perm6 {h : Heap} {pI pC pD pb pl pc : Addr × Obj} (N : News h₀ L h [pI, pC, pD, pb, pl, pc]) : News h₀ L h [pb, pl, pI, pC, pD, pc] := by
  intro p hp
  refine N p ?_
  simp only [List.mem_cons, List.not_mem_nil, or_false] at hp ⊢
  rcases hp with h | h | h | h | h | h <;> simp [h]
theorem perm6' {h : Heap} {pI pC pD pb pl pc : Addr × Obj} (N : News h₀ L h [pb, pl, pI, pC, pD, pc]) : News h₀ L h [pI, pC, pD, pb, pl, pc] := by
  intro p hp
  refine N p ?_
  simp only [List.mem_cons, List.not_mem_nil, or_false] at hp ⊢
  rcases hp with h | h | h | h | h | h <;> simp [h]
theorem drop1 {h : Heap} {p q r z : Addr × Obj} (N : News h₀ L h [z, p, q, r]) : News h₀ L h [p, q, r] := fun a ha => N a (.tail _ ha)
end
theorem join_ab {prog : Program} {w : World} {A : Around} {E : Value → Shared → Prop} {s : Shared} {t : Tok} {Q : Value → Shared → Prop} {D : Addr} {ys : List Value} {xs : List Str} (hl : s.heap.IsList D ys.toArray) (hc : CarriedAll ys (xs.map fun a => PyData.str ((fun a => a) a))) (h1 : ∀ a ∈ xs, ((fun a : Str => a) a).length = 1) (hn : xs.length ≤ 1048576)
    (h : ∀ (z : Str) t' k, z.length = xs.length → Q (.str z t') { s with toks := k }) :
    wpAny (model prog w) A (call (.builtin "str.join") [.str (PySem.Str.ofString "") t, .ref D]) Q E s :=
  KT.join_1 hl hc h1 hn fun t' k e => h _ t' k e
theorem off_of {b : Addr} {l : List (Addr × Obj)} (h : ∀ p ∈ l, @Ne Nat p.1 b) : OwnOff l [b] := by
  intro p hp c hc
  rw [List.mem_singleton.mp hc]
  exact h p hp
end Mine
namespace Mine
set_option maxRecDepth 100000
set_option maxHeartbeats 400000
theorem law_good {cl : Str → Option Addr} {mean : ExcName → Option Value} {args : List WData} {L : Addr} {m : Str → Option Value} {s₁ s' : Shared} {b : Bool} (hb : b = true) (F : Fr s₁.heap L s'.heap m) (hg : s'.gens = #[]) (hos : s'.os = s₁.os) :
    GoodW PySem.Challenge.rw_xm0059_01.row.claim cl mean args s₁ (.ok (.ret (.bool b))) s' := by
  subst hb
  refine goodW_bool F hg (raisesW_false ?_) ?_ hos
  · exact allW_false_nil
  · exact postW_of (by rfl) (by wtm_val) (by first | rfl | (trace_state; fail))
end Mine
namespace Mine
theorem tup_ne {h₀ h : Heap} {L : Addr} {news : List (Addr × Obj)} {a l : Addr} {o : Obj} {its : Array Value} {n : Nat} (N : News h₀ L h news) (ha : (a, o) ∈ news) (hl : (l, listOf its n) ∈ news) (ho : o.cls = .type "tuple") : @Ne Nat a l := by
  intro e
  have e : a = l := e
  subst e
  have h1 := (N _ ha).1
  have h2 := (N _ hl).1
  have h3 := h1.symm.trans h2
  have h4 : o = listOf its n := Option.some.inj h3
  rw [h4] at ho
  have h5 : (Value.type "list") = Value.type "tuple" := ho
  injection h5 with h6
  exact absurd h6 (by decide)
end Mine
namespace Mine
set_option maxRecDepth 100000
set_option maxHeartbeats 4000000
local macro_rules | `(tactic| walk_at "call ref") => `(tactic| k_extra "my call")
local macro_rules | `(tactic| walk_at "pyIter ref") => `(tactic| k_extra "my iter")
local macro_rules | `(tactic| walk_at "exec Return") => `(tactic| k_extra "my ret")
local macro_rules | `(tactic| walk_at "exec Return some") => `(tactic| k_extra "my ret")
local macro_rules | `(tactic| walk_at "exec While") => `(tactic| k_extra "my while")
local macro_rules | `(tactic| walk_at "exec While Compare cons nil") => `(tactic| k_extra "my while")
local macro_rules | `(tactic| walk_at "call builtin:str.join") => `(tactic| k_extra "my join")
local macro_rules | `(tactic| walk_at "call type:range") => `(tactic| ((rename Fr _ _ _ _ => F'); (rename News _ _ _ _ => N'); first | (with_unfolding_all refine range1_rows F' N' ?_; intro _ _ _ _ _ _ _ _ _) | (with_unfolding_all refine range2_rows F' N' ?_; intro _ _ _ _ _ _ _ _ _)))
local macro_rules | `(tactic| walk_at "call builtin:list.append") => `(tactic| k_extra "my app")
local macro_rules | `(tactic| size_fits) => `(tactic| with_reducible assumption)
local macro_rules | `(tactic| wrow_close) => `(tactic| k_extra "my close")
local macro_rules | `(tactic| walk_at "InvEndN") => `(tactic| k_extra "my end")
local macro_rules | `(tactic| walk_at "CompSrc") => `(tactic| (k_dflt ((refine LCg.CompSrc.range (by rfl) (by k_asm) (news := [(_, listOf #[.ref _, .int _ _] _), (_, listOf _ 0), _]) (by first | k_asm | exact drop1 (by k_asm)) (by assumption) (small_one (by omega) (by omega) (by omega) (by omega)) (rangeSize_nat _ _) (by rw [PySem.sizeLine_eq]; omega) ?_); (intro g9); (refine comp_ab ?_ ?_); (all_goals first | (intro i9 t9 I9 oI9 C9 oC9 D9 m9 ys9 h' tk' E9 hlo9 hhi9 hC9 F' N' off9 ne9; (simp only [LCg.Off3, and_true] at off9)) | (intro ys9 xs9 t9 hc9 hl9 h19)); (all_goals (try k_fold)))))
local macro_rules | `(tactic| walk_at "CompEnd") => `(tactic| (k_dflt (refine LCg.CompEnd.intro (by k_asm) (perm6' (by k_asm)) [_, _, _] (fun p hp => hp) (by simp only [LCg.Off3, and_true]; assumption) trivial ⟨_, _, _, by assumption, rfl, rfl⟩)))
theorem law_c : PySem.Challenge.rw_xm0059_01.Holds := hd (by
  k_go0
  all_goals try k_fold
  k_with_none
  k_with "my join" => (k_dflt ((refine join_ab (News.isList (by k_asm) (by k_mem)) (by assumption) (by assumption) (by omega) ?_); first | (intro pt ptT ptK ptH; (have hpL : (pt.length : Int) = 2 + kD := by omega); (have hpN : 2 + kD = (pt.length : Int) := hpL.symm); (have hp255 : pt.length ≤ 255 := by omega); (have hp1 : 1 ≤ pt.length := by omega); (have hz0 : 0 ≤ 2 + kD := by omega); (have hz255 : 2 + kD ≤ 255 := by omega)) | (intro tx txT txK txH; (have htL : tx.length = 9 := by omega); (have ht255 : tx.length ≤ 255 := by omega))))
  k_with "my call" => (k_dflt ((show wpAny _ _ (PySem.call (Value.ref 121) _) _ _ _); (refine' draw_c _ _ _ _ _ _ _ _ _ _ ?zh0 ?zh1 ?zh2 ?zh3 ?zh4 ?zh5 _ ?zh6 _ _ _ _ _ _ _ _ _ _ _ _ _ _ _ _ _ _ _ _ ?zB ?zF ?zX ?zN ?zT ?zK ?zd ?zu ?_); (case zB => k_asm); (case zF => k_asm); (case zX => k_asm); (case zN => first | k_asm | exact perm6 (by k_asm)); (case zT => k_asm); (case zK => first | exact rfl | assumption); (case zd => ktr_room); (case zu => ktr_units); (case zh4 => assumption); (case zh0 => omega); (case zh1 => omega); (case zh2 => first | exact .inl rfl | exact .inr rfl); (case zh3 => omega); (case zh5 => omega); (case zh6 => exact off_of (by k_all)); intro r9 news9 h' tk' hR9 F' N'; obtain ⟨kD, tk9, tk8, hV9, hK0, hK1, hE9⟩ := hR9; subst hE9; subst hV9; (try dsimp only); (try k_fold)))
  k_with "my call" => (k_dflt ((show wpAny _ _ (PySem.call (Value.ref 135) _) _ _ _); (refine' borders_c _ _ _ ?zh0 ?zh1 _ _ _ _ _ _ _ _ _ _ _ _ _ _ _ _ _ _ _ _ _ ?zB ?zF ?zX ?zN ?zT ?zK ?zd ?zu ?_); (case zB => k_asm); (case zF => k_asm); (case zX => k_asm); (case zN => k_asm); (case zT => k_asm); (case zK => first | exact rfl | assumption); (case zd => ktr_room); (case zu => ktr_units); (case zh0 => exact hp255); (case zh1 => exact hp1); intro r9 news9 h' tk' hR9 F' N'; obtain ⟨bl, bV, bI, bN, hV9, hE9, hbI, hbL, hbOk⟩ := hR9; subst hE9; subst hV9; (try dsimp only); (try k_fold)))
  k_with "my call" => (k_dflt ((show wpAny _ _ (PySem.call (Value.ref 100) _) _ _ _); (refine' left_c _ _ _ _ _ _ _ ?zh0 ?zh1 ?zh2 _ _ _ _ _ _ _ _ _ _ _ _ _ _ _ _ _ _ _ _ _ ?zB ?zF ?zX ?zN ?zT ?zK ?zd ?zu ?_); (case zB => k_asm); (case zF => k_asm); (case zX => k_asm); (case zN => k_asm); (case zT => k_asm); (case zK => first | exact rfl | assumption); (case zd => ktr_room); (case zu => ktr_units); (case zh0 => omega); (case zh1 => omega); (case zh2 => first | exact hp255 | exact ht255); intro r9 news9 h' tk' hR9 F' N'; obtain ⟨hE9, tk9, hV9⟩ := hR9; subst hE9; subst hV9; (try dsimp only); (try k_fold)))
  k_with "my call" => (k_dflt ((show wpAny _ _ (PySem.call (Value.ref 128) _) _ _ _); (refine' sign_c _ _ _ _ _ ?zh0 ?zh1 ?zh2 _ _ _ _ _ _ _ _ _ _ _ _ _ _ _ _ _ _ _ _ _ ?zB ?zF ?zX ?zN ?zT ?zK ?zd ?zu ?_); (case zB => k_asm); (case zF => k_asm); (case zX => k_asm); (case zN => k_asm); (case zT => k_asm); (case zK => first | exact rfl | assumption); (case zd => ktr_room); (case zu => ktr_units); (case zh0 => omega); (case zh1 => omega); (case zh2 => first | exact hp255 | exact ht255); intro r9 news9 h' tk' hR9 F' N'; obtain ⟨hE9, tk9, hV9⟩ := hR9; subst hE9; subst hV9; (try dsimp only); (try k_fold)))
  k_with "my call" => (k_dflt ((show wpAny _ _ (PySem.call (Value.ref 142) _) _ _ _); (with_reducible show wpAny _ _ (PySem.call _ [Value.str (Txt.slice pt _ _) _, _, _]) _ _ _); (refine' longest_c _ _ _ _ _ _ _ ?zh0 ?zh1 ?zh2 ?zh3 _ _ _ _ _ _ _ _ _ _ _ _ _ _ _ _ _ _ _ _ _ ?zB ?zF ?zX ?zN ?zT ?zK ?zd ?zu ?_); (case zB => k_asm); (case zF => k_asm); (case zX => k_asm); (case zN => k_asm); (case zT => k_asm); (case zK => first | exact rfl | assumption); (case zd => ktr_room); (case zu => ktr_units); (case zh0 => exact Nat.le_trans (PyProof.Txt.length_slice_le _ _ _) hp255); (case zh1 => exact hp255); (case zh2 => omega); (case zh3 => omega); intro r9 news9 h' tk' hR9 F' N'; obtain ⟨hE9, kL, tk9, hL9, hV9⟩ := hR9; subst hE9; subst hV9; (have hEq := bd_eq hbOk hbL (by omega) (by omega) hL9); (try dsimp only); (try k_fold)))
  k_with "my call" => (k_dflt ((show wpAny _ _ (PySem.call (Value.ref 142) _) _ _ _); (with_reducible show wpAny _ _ (PySem.call _ [Value.str (Txt.slice tx _ _) _, _, _]) _ _ _); (refine' longest_c _ _ _ _ _ _ _ ?zh0 ?zh1 ?zh2 ?zh3 _ _ _ _ _ _ _ _ _ _ _ _ _ _ _ _ _ _ _ _ _ ?zB ?zF ?zX ?zN ?zT ?zK ?zd ?zu ?_); (case zB => k_asm); (case zF => k_asm); (case zX => k_asm); (case zN => k_asm); (case zT => k_asm); (case zK => first | exact rfl | assumption); (case zd => ktr_room); (case zu => ktr_units); (case zh0 => exact Nat.le_trans (PyProof.Txt.length_slice_le _ _ _) ht255); (case zh1 => exact hp255); (case zh2 => exact hz0); (case zh3 => exact hz255); intro r9 news9 h' tk' hR9 F' N'; obtain ⟨hE9, kL, tk9, hL9, hV9⟩ := hR9; subst hE9; subst hV9; (first | (have hMid := lmid_T tInv aN1 aN2 (by with_reducible assumption)) | (have hMid := lmid_F tInv aN1 aN2 (by with_reducible assumption) (by with_reducible assumption))); (have hEq := mid_eq hMid aN0 aN2 hpN hL9); (try dsimp only); (try k_fold)))
  k_with "my call" => (k_dflt ((show wpAny _ _ (PySem.call (Value.ref 93) _) _ _ _); (refine' instr2_c _ tx pt _ _ _ _ ?zh0 ?zh1 ?zh2 _ _ _ _ _ _ _ _ _ _ _ _ _ _ _ _ _ _ _ _ _ ?zB ?zF ?zX ?zN ?zT ?zK ?zd ?zu ?_); (case zB => k_asm); (case zF => k_asm); (case zX => k_asm); (case zN => k_asm); (case zT => k_asm); (case zK => first | exact rfl | assumption); (case zd => ktr_room); (case zu => ktr_units); (case zh0 => exact ht255); (case zh1 => exact hp255); (case zh2 => exact hp1); intro r9 news9 h' tk' hR9 F' N'; obtain ⟨hE9, kF, tk9, hF9, hV9⟩ := hR9; subst hE9; subst hV9; (try dsimp only); (try k_fold)))
  k_with "my call" => (k_dflt ((show wpAny _ _ (PySem.call (Value.ref 93) _) _ _ _); (refine' instr3_c _ tx pt _ _ ?zh3 ?zh4 _ _ _ _ ?zh0 ?zh1 ?zh2 _ _ _ _ _ _ _ _ _ _ _ _ _ _ _ _ _ _ _ _ _ ?zB ?zF ?zX ?zN ?zT ?zK ?zd ?zu ?_); (case zB => k_asm); (case zF => k_asm); (case zX => k_asm); (case zN => k_asm); (case zT => k_asm); (case zK => first | exact rfl | assumption); (case zd => ktr_room); (case zu => ktr_units); (case zh0 => exact ht255); (case zh1 => exact hp255); (case zh2 => exact hp1); (case zh3 => omega); (case zh4 => omega); intro r9 news9 h' tk' hR9 F' N'; obtain ⟨hE9, kF, tk9, hF9, hV9⟩ := hR9; subst hE9; subst hV9; (try dsimp only); (try k_fold)))
  k_with "my iter" => ((rename Fr _ _ _ _ => lF'); (rename News _ _ _ _ => lN'); (rename IsRange _ _ _ _ _ _ _ _ => rgX); k_dflt (refine' kst_range (x := Str.ofString "many") (σ := Unit) (fun _ => _) (fun _ => []) (fun _ => True) [] (fun _ _ => True) () (by rfl) (by exact rgX) (small_one (by omega) (by omega) (by omega) (by omega)) (rangeSize_nat _ _) lF' lN' trivial (List.forall_mem_nil _) trivial ?_ ?_); (case' refine'_1 => (intro yC yPre yN yT yU yH yTk yOwn yEq yLt yOff yFacts yInv yFr yNews)); (case' refine'_2 => (intro yC yU yH yTk yFacts yInv yFr yNews)); (all_goals ((have kMark := kstMark); (try simp only [List.map_cons, List.map_nil] at yOff); (try dsimp only [kstB] at yFr); (try dsimp only at yNews); (try simp only [List.cons_append, List.nil_append] at yNews); (try k_fold))))
  k_with "my iter" => (k_dflt ((k_of "at" => k_state (fun pre st lk ends => LInv tx pt pre.length st lk ends) "state" "looks" "ends"); (all_goals ((have aInv := kInv); (try (have aEq := kEq)); (have aB0 := aInv.1.1); (have aB1 := aInv.1.2.1); (have aB2 := aInv.2); (have aB3 := aInv.3); (try (have aLv := linv_size kFacts aInv (Nat.le_trans (Nat.le_of_lt kLt) (by decide)))); (try simp only [rangeKs_length] at aB3); (try (have aN0 : (0 : Int) ≤ kN := by omega)); (try (have aN1 : (1 : Int) ≤ kN := by omega)); (try (have aN2 : kN ≤ (tx.length : Int) := by omega))))))
  k_with "my iter" => (k_dflt ((k_of "turn" => k_state (fun pre st lk (_ : Bool) => SInv tx pt kN pre.length st lk) "state" "looks" "is_met"); (all_goals ((have tInv := kInv); (have tB0 := tInv.1.1); (have tB1 := tInv.1.2.1); (try (exfalso; exact sinv_not tInv (by rw [rangeKs_length]; omega)))))))
  k_with "my while" => (k_dflt ((rename Fr _ _ _ _ => lF'); (rename News _ _ _ _ => lN'); (refine' ksw_while (σ := Int × Nat × List Value × List Int × Nat) (fun c => (_, listOf c.2.2.1.toArray c.2.2.2.2) :: _) (fun c => [(Str.ofString "begin", .int c.1 c.2.1)]) (fun c => IntsAre c.2.2.1 c.2.2.2.1) [] (fun c => WInv tx pt c.1 c.2.2.2.1) (fun c => wmu tx c.1) (_, _, [], [], 0) lF' (news_tail lN') .nil (List.forall_mem_cons.mpr ⟨by with_unfolding_all rfl, List.forall_mem_nil _⟩) (winv0 hp1 (by omega) hF9) ?_); (rintro ⟨wb, wbT, wV, wI, wN⟩ wU wH wTk wFacts wInv wFr wNews); (try dsimp only at wFacts wInv); (have wB := winv_le hp1 wInv); (have wLv := winv_size wFacts ht255 wInv); (try dsimp only [kstB] at wFr); (try dsimp only at wNews); (try simp only [List.cons_append, List.nil_append] at wNews); (try k_fold)))
  k_with "my end" => (k_dflt ((rename News _ _ _ _ => nE'); (try simp only [List.push_toArray] at nE'); first | (refine' kst_end (x := Str.ofString "turn") ⟨_, _, _, _, _⟩ ?fz nE' ?nz ?oz ?az ?gz ?kz ?rz ?pz; (case fz => assumption); (case kz => kst_all); (case nz => first | ((try dsimp only); (try simp only [List.nil_append, List.cons_append]); (repeat' (first | exact List.forall_mem_nil _ | (with_reducible refine List.forall_mem_cons.mpr ⟨?_, ?_⟩) | (with_reducible exact List.mem_cons_self) | (with_reducible refine List.mem_cons_of_mem _ ?_) | (intro p9 h9; kst_mem))); done) | kst_in); (case oz => (intro p hp; kst_mem)); (case az => rfl); (case gz => kst_facts); (case rz => kst_same); (case pz => kst_p)) | (refine' kst_end (x := Str.ofString "at") ⟨_, _, _, _, _, _, _⟩ ?fz nE' ?nz ?oz ?az ?gz ?kz ?rz ?pz; (case fz => assumption); (case kz => kst_all); (case nz => first | ((try dsimp only); (try simp only [List.nil_append, List.cons_append]); (repeat' (first | exact List.forall_mem_nil _ | (with_reducible refine List.forall_mem_cons.mpr ⟨?_, ?_⟩) | (with_reducible exact List.mem_cons_self) | (with_reducible refine List.mem_cons_of_mem _ ?_) | (intro p9 h9; kst_mem))); done) | kst_in); (case oz => (intro p hp; kst_mem)); (case az => rfl); (case gz => kst_facts); (case rz => kst_same); (case pz => kst_p))))
  k_with "my ret" => (k_dflt ((have hPE := ends_eq wInv (by with_reducible assumption) aInv ((rangeKs_length _ _).trans htL.symm)); (have hLk := linv_looks aInv (rangeKs_length _ _)); clear wInv; refine wpAny_Return_some ?_))
  k_with "my ret" => (exfalso; exact absurd hEq (by with_reducible assumption))
  k_with "my app" => (k_here; (with_reducible show wpAny _ _ (call (Value.builtin _) [Value.ref _, _]) _ _ _); (rename Fr _ _ _ _ => fA); (rename News _ _ _ _ => nA); k_dflt ((have hA1 := tup_ne nA (.head _) (.tail _ (.tail _ (.head _))) rfl); (have hA2 := tup_ne nA (.tail _ (.head _)) (.tail _ (.tail _ (.head _))) rfl); (refine' append_K fA nA ?k3 ?_ ?z; (case k3 => k_upd); (case z => exact aLv); k_whole); (clear nA fA); intro h' F' N'; (try k_sweep)))
  k_with "my close" => (w_end; k_dflt (exact law_good (decide_eq_true hLk) (by assumption) (by assumption) rfl))
  k_with "state" => first | with_reducible exact True.intro | with_reducible exact sinv_fall' tInv aN1 aN2 hbOk hbL (by with_reducible assumption) (by with_reducible assumption) | with_reducible exact linv_no' hpN hMid aEq aInv.f4 (by with_reducible assumption) | with_reducible exact linv_yes' hpN hMid aEq aInv.f4 (by with_reducible assumption) | with_reducible exact winv_stepn hpN hp1 (by with_reducible assumption) (by with_reducible assumption) hF9 | with_reducible exact sinvA' hpN aInv aEq (by with_reducible assumption) | with_reducible exact sinvB' hpN aInv aEq (by with_reducible assumption) hp1 hbOk hbL | with_reducible exact linv0 _ _
  k_with "measure" => exact winv_mu hp1 (by with_reducible assumption) (by with_reducible assumption) hF9
  k_steps
  all_goals w_report)
end Mine
set_option maxRecDepth 100000 in
set_option maxHeartbeats 8000000 in
theorem PySem.Challenge.cw_xm0059_01_holds : PySem.Challenge.rw_xm0059_01.Holds := by
  exact Mine.law_c
