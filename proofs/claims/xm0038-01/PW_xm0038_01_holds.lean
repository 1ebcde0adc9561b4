import PyProof.Rows.All
import Wide.All
import OpenK.AllK
import Wide.FinOn
import Lean
import PySem.Challenge.RW_xm0038_01
open PySem PySem.W PyProof.Rows PySem.Calls PySem.Spec
set_option Elab.async false
set_option maxRecDepth 100000
set_option maxHeartbeats 8000000
namespace Mine
def lead : PySem.Str := PySem.Str.ofString "a"
theorem lead_eq : lead = lead := rfl
name_quick tw8075568018651887793 for lead by lead_eq
name_quick tw6205977130058941239 for lead by lead_eq
name_quick tw4710341823480487964 for lead by lead_eq
name_quick tw4629098017875484523 for lead by lead_eq
name_quick tw1051571026272145596 for lead by lead_eq
name_quick tw16573998221262416630 for lead by lead_eq
name_quick tw3830411482411394332 for lead by lead_eq
name_quick tw5882768191206486792 for lead by lead_eq
name_quick tw15560500314895047343 for lead by lead_eq
name_quick tw13375533955310729550 for lead by lead_eq
name_quick tw12150249912526168084 for lead by lead_eq
name_quick tw9136488742655976645 for lead by lead_eq
name_quick tw17111948838632640456 for lead by lead_eq
name_quick tw2664551874359636763 for lead by lead_eq
name_quick tw8119918657739134586 for lead by lead_eq
name_quick tw14168537005229113720 for lead by lead_eq
name_quick tw15236012663528867214 for lead by lead_eq
name_quick tw3105397867545767578 for lead by lead_eq
name_quick tw505943868828395459 for lead by lead_eq
name_quick tw682011567655089306 for lead by lead_eq
name_quick tw136631920214876835 for lead by lead_eq
name_quick tw4552823106982906706 for lead by lead_eq
name_quick tw17000458434675057986 for lead by lead_eq
name_quick tw10996506086634736982 for lead by lead_eq
name_quick tw3972328310683599613 for lead by lead_eq
name_quick tw14326252917377295143 for lead by lead_eq
name_quick tw18416463498863911781 for lead by lead_eq
name_quick tw9759809726879904816 for lead by lead_eq
name_quick tw14834023430324568649 for lead by lead_eq
name_quick tw17828083071136270317 for lead by lead_eq
name_quick tw17057272898397164401 for lead by lead_eq
name_quick tw18340240734955500558 for lead by lead_eq
name_quick tw7323676302269181137 for lead by lead_eq
name_quick tw2611137233208623240 for lead by lead_eq
name_quick tw13145125596335152023 for lead by lead_eq
name_quick tw17100903815162463580 for lead by lead_eq
name_quick tw43969757491396457 for lead by lead_eq
open_top hd for PySem.Challenge.rw_xm0038_01
theorem arms_off : True := by
  w_top off
  trivial
local macro_rules | `(tactic| walk_at $s:str) => `(tactic| k_extra $s)
def figsGo : Nat → Int → Int → Int → Int
  | 0, _, m, _ => m
  | k + 1, n, m, b => if b ≤ n then figsGo k n (m + 1) (b * 10) else m
def figs (n : Int) : Int := figsGo 100 n 1 10
theorem figsGo_le (k : Nat) : ∀ (f : Nat) (n : Int) (m : Nat), n < 10 ^ k → m ≤ k → figsGo f n (m : Int) (10 ^ m) ≤ (k : Int)
  | 0, n, m, h, hm => by show (m : Int) ≤ k; omega
  | f + 1, n, m, h, hm => by
    show (if (10 : Int) ^ m ≤ n then figsGo f n ((m : Int) + 1) (10 ^ m * 10) else (m : Int)) ≤ (k : Int)
    split
    · rename_i h1
      have h2 : (10 : Int) ^ m < 10 ^ k := Int.lt_of_le_of_lt h1 h
      have h3 : m < k := by
        apply Nat.lt_of_not_le
        intro h4
        have h5 : (10 : Nat) ^ k ≤ 10 ^ m := Nat.pow_le_pow_right (by decide) h4
        have e1 : (10 : Int) ^ m = ((10 ^ m : Nat) : Int) := by simp
        have e2 : (10 : Int) ^ k = ((10 ^ k : Nat) : Int) := by simp
        rw [e1, e2] at h2
        omega
      have := figsGo_le k f n (m + 1) h h3
      rw [Int.pow_succ] at this
      exact this
    · omega
theorem figs_le {n : Int} (k : Nat) (h : n < 10 ^ k) (hk : 1 ≤ k) : figs n ≤ (k : Int) := figsGo_le k 100 n 1 h hk
theorem figsGo_ge : ∀ (f : Nat) (n m b : Int), m ≤ figsGo f n m b
  | 0, n, m, b => Int.le_refl _
  | f + 1, n, m, b => by
    show m ≤ (if b ≤ n then _ else m)
    split
    · have := figsGo_ge f n (m + 1) (b * 10); omega
    · omega
theorem figs_ge (n : Int) : 1 ≤ figs n := figsGo_ge 100 n 1 10
theorem pow10_pos (p : Nat) : (0 : Int) < 10 ^ p := Int.pow_pos (by decide)
def rbF (n p : Int) : Int :=
  if p ≤ 0 then n else if figs n + 1 < p then 0 else
    if 10 ^ p.toNat < 2 * Int.fmod n (10 ^ p.toNat) ∨ (2 * Int.fmod n (10 ^ p.toNat) = 10 ^ p.toNat ∧ Int.fmod (Int.fdiv n (10 ^ p.toNat)) 2 = 1) then Int.fdiv n (10 ^ p.toNat) + 1 else Int.fdiv n (10 ^ p.toNat)
theorem fdiv_bounds {n b : Int} (hn : 0 ≤ n) (hb : 0 < b) : 0 ≤ Int.fdiv n b ∧ Int.fdiv n b ≤ n := by
  rw [Int.fdiv_eq_ediv_of_nonneg n (by omega)]
  exact ⟨Int.ediv_nonneg hn (by omega), Int.ediv_le_self b hn⟩
theorem rbF_bounds {n p : Int} (hn : 0 ≤ n) : 0 ≤ rbF n p ∧ rbF n p ≤ n + 1 := by
  have h := fdiv_bounds hn (pow10_pos p.toNat)
  unfold rbF
  (repeat' split) <;> omega
def strip : Nat → Int → Int → Int × Int
  | 0, s, e => (s, e)
  | k + 1, s, e => if Int.fmod s 10 = 0 then strip k (Int.fdiv s 10) (e + 1) else (s, e)
def iabs (x : Int) : Int := if x < 0 then -x else x
theorem iabs_is (x : Int) : (x < 0 ∧ iabs x = -x) ∨ (0 ≤ x ∧ iabs x = x) := by
  unfold iabs
  split <;> omega
def madeA (c e : Int) : Int × Int := if 0 < figs (iabs c) - 12 then (rbF (iabs c) (figs (iabs c) - 12), e + (figs (iabs c) - 12)) else (iabs c, e)
def madeB (c e : Int) : Int × Int := if (madeA c e).1 = 0 then (0, 0) else strip 41 (madeA c e).1 (madeA c e).2
def madeF (c e : Int) : Int × Int := (if c < 0 then -(madeB c e).1 else (madeB c e).1, (madeB c e).2)
def StripI (c e s x : Int) : Prop := ∃ k : Nat, strip k s x = strip 41 (madeA c e).1 (madeA c e).2 ∧ 0 < s ∧ s < 10 ^ k ∧ x + k ≤ 100 ∧ -90 ≤ x ∧ s < 10 ^ 41
def MadeOk (c e : Int) : Prop := -10 ^ 40 < c ∧ c < 10 ^ 40 ∧ -90 ≤ e ∧ e ≤ 30
theorem madeA_bounds {c e : Int} (h : MadeOk c e) : 0 ≤ (madeA c e).1 ∧ (madeA c e).1 < 10 ^ 41 ∧ -90 ≤ (madeA c e).2 ∧ (madeA c e).2 ≤ 58 := by
  obtain ⟨h1, h2, h3, h4⟩ := h
  have ha := iabs_is c
  have hf := figs_le (n := iabs c) 40 (by omega) (by omega)
  have hr := rbF_bounds (n := iabs c) (p := figs (iabs c) - 12) (by omega)
  unfold madeA
  split
  · dsimp only; omega
  · dsimp only; omega
theorem strip_start {c e s x : Int} (h : MadeOk c e) (e1 : s = (madeA c e).1) (e2 : x = (madeA c e).2) (hz : ¬ s = 0) : StripI c e s x := by
  have hb := madeA_bounds h
  subst e1; subst e2
  refine ⟨41, rfl, by omega, by omega, by omega, by omega, by omega⟩
theorem strip_step {c e s x : Int} (h : StripI c e s x) (hz : Int.fmod s 10 = 0) : StripI c e (Int.fdiv s 10) (x + 1) := by
  obtain ⟨k, h1, h2, h3, h4, h5, h8⟩ := h
  have hd : s = 10 * Int.fdiv s 10 + Int.fmod s 10 := by rw [Int.mul_fdiv_add_fmod]
  cases k with
  | zero => rw [Int.pow_zero] at h3; omega
  | succ k =>
    have h6 : 0 ≤ Int.fmod s 10 := Int.fmod_nonneg_of_pos s (by decide)
    refine ⟨k, ?_, by omega, ?_, by omega, by omega, by omega⟩
    · rw [← h1]; show _ = (if Int.fmod s 10 = 0 then _ else _); rw [if_pos hz]
    · rw [Int.pow_succ] at h3; omega
theorem strip_less {c e s x : Int} (h : StripI c e s x) : (Int.fdiv s 10).toNat < s.toNat := by
  obtain ⟨k, h1, h2, h3, h4, h5, h8⟩ := h
  have hd : s = 10 * Int.fdiv s 10 + Int.fmod s 10 := by rw [Int.mul_fdiv_add_fmod]
  have h6 : 0 ≤ Int.fmod s 10 := Int.fmod_nonneg_of_pos s (by decide)
  have h7 : Int.fmod s 10 < 10 := Int.fmod_lt_of_pos s (by decide)
  omega
theorem strip_done {c e s x : Int} (h : StripI c e s x) (hz : ¬ Int.fmod s 10 = 0) : strip 41 (madeA c e).1 (madeA c e).2 = (s, x) ∧ 0 < s ∧ s < 10 ^ 90 ∧ x + figs s - 1 ≤ 99 ∧ -99 ≤ x + figs s - 1 := by
  obtain ⟨k, h1, h2, h3, h4, h5, h8⟩ := h
  have hk : 1 ≤ k := by
    cases k with
    | zero => rw [Int.pow_zero] at h3; omega
    | succ k => omega
  have hf := figs_le k h3 hk
  have hg := figs_ge s
  have hs : strip k s x = (s, x) := by
    cases k with
    | zero => rfl
    | succ k => show (if Int.fmod s 10 = 0 then _ else _) = _; rw [if_neg hz]
  refine ⟨by rw [← h1, hs], h2, by omega, by omega, by omega⟩
theorem made_zero1 {c e : Int} (hz : (madeA c e).1 = 0) : 0 = (madeF c e).1 := by
  unfold madeF madeB; rw [if_pos hz]; dsimp only; split <;> rfl
theorem made_zero2 {c e : Int} (hz : (madeA c e).1 = 0) : 0 = (madeF c e).2 := by
  unfold madeF madeB; rw [if_pos hz]
theorem made_neg {c e s x : Int} (hz : ¬ (madeA c e).1 = 0) (hs : strip 41 (madeA c e).1 (madeA c e).2 = (s, x)) (hc : c < 0) : -s = (madeF c e).1 := by
  unfold madeF madeB; rw [if_neg hz, hs, if_pos hc]
theorem made_pos {c e s x : Int} (hz : ¬ (madeA c e).1 = 0) (hs : strip 41 (madeA c e).1 (madeA c e).2 = (s, x)) (hc : ¬ c < 0) : s = (madeF c e).1 := by
  unfold madeF madeB; rw [if_neg hz, hs, if_neg hc]
theorem made_ex {c e s x : Int} (hz : ¬ (madeA c e).1 = 0) (hs : strip 41 (madeA c e).1 (madeA c e).2 = (s, x)) : x = (madeF c e).2 := by
  unfold madeF madeB; rw [if_neg hz, hs]
abbrev Ledger := List (Addr × Obj)
abbrev Names := Str → Option Value

/-- what a call of the def at f shows: under `pre` of the ledger it ends as `Ret` tells; d: the depth of frames it asks -/
def CG (f : Addr) (d : Nat) (vs : List Value) (pre : Ledger → Prop) (Ret : Heap → Addr → Names → Ledger → Shared → (Value → Shared → Prop) → Prop) : Prop :=
  ∀ (w : World) (loose : List Str) (mean : ExcName → Option Value) (mg mb : Names) (dp un : Nat) (gd : Option (List Code)) (cn : Str) (cs : Scope) (a : Addr) (ccd : Value) (cl : List (Str × Addr)) (outer : List Env) (A₀ : Around) (base h₀ : Heap) (L : Addr) (m : Names) (news : Ledger) (s : Shared) (Q E : Value → Shared → Prop),
    Below A₀ base outer h₀ → Fr h₀ L s.heap m → (hd.heap_39 w.params).In h₀ → News h₀ L s.heap news → Top hd.view_39 loose mean mg mb h₀ → cs.kind = .function →
    pre news → dp + d < recursionLimit → un + 8 * d < cLine → Ret h₀ L m news s Q →
    wpAny (model (RowW.prog (OpenRow.toRowW (OpenLaw.row PySem.Challenge.rw_xm0038_01))) w) (ktrTop dp un gd cn cs L a ccd cl outer) (call (.ref f) vs) Q E s

abbrev RI (r : Int) (h₀ : Heap) (L : Addr) (m : Names) (news : Ledger) (s : Shared) (Q : Value → Shared → Prop) : Prop :=
  ∀ (t : Tok) (h' : Heap) (tk' : Nat), Fr h₀ L h' m → News h₀ L h' news → Q (.int r t) { s with heap := h', toks := tk' }
abbrev tupO (vs : List Value) (c : Nat) : Obj := { cls := .type "tuple", data := .seq vs.toArray c }
abbrev RT2 (x y : Int) (h₀ : Heap) (L : Addr) (m : Names) (news : Ledger) (s : Shared) (Q : Value → Shared → Prop) : Prop :=
  ∀ (D : Addr) (t1 t2 : Tok) (c : Nat) (h' : Heap) (tk' : Nat), Fr h₀ L h' m → News h₀ L h' ((D, tupO [.int x t1, .int y t2] c) :: news) → (∀ p ∈ news, p.1 < D) → Q (.ref D) { s with heap := h', toks := tk' }

theorem CG.use {f : Addr} {d : Nat} {vs : List Value} {pre : Ledger → Prop} {Ret : Heap → Addr → Names → Ledger → Shared → (Value → Shared → Prop) → Prop} (C : CG f d vs pre Ret)
    {w : World} {loose : List Str} {mean : ExcName → Option Value} {mg mb : Names} {dp un : Nat} {gd : Option (List Code)} {cn : Str} {cs : Scope} {a : Addr} {ccd : Value} {cl : List (Str × Addr)} {outer : List Env} {A₀ : Around} {base h₀ : Heap} {L : Addr} {m : Names} {news : Ledger} {s : Shared} {Q E : Value → Shared → Prop}
    (B : Below A₀ base outer h₀) (F : Fr h₀ L s.heap m) (X : (hd.heap_39 w.params).In h₀) (N : News h₀ L s.heap news) (T : Top hd.view_39 loose mean mg mb h₀) (hk : cs.kind = .function)
    (hp : pre news) (hd' : dp + d < recursionLimit) (hu : un + 8 * d < cLine) (hr : Ret h₀ L m news s Q) :
    wpAny (model (RowW.prog (OpenRow.toRowW (OpenLaw.row PySem.Challenge.rw_xm0038_01))) w) (ktrTop dp un gd cn cs L a ccd cl outer) (call (.ref f) vs) Q E s :=
  C w loose mean mg mb dp un gd cn cs a ccd cl outer A₀ base h₀ L m news s Q E B F X N T hk hp hd' hu hr
theorem retI {h₀ h' : Heap} {L : Addr} {m : Names} {news news' : Ledger} {s : Shared} {Q : Value → Shared → Prop} {x y : Int} {t : Tok} {tk' : Nat} (hret : RI x h₀ L m news s Q)
    (e : y = x) (F : Fr h₀ L h' m) (N : News h₀ L h' news') (hs : ∀ p ∈ news, p ∈ news') : Q (.int y t) { s with heap := h', toks := tk' } := by
  subst e
  exact hret t h' tk' F (cb_drop N hs)
theorem retT2 {h₀ h' : Heap} {L D : Addr} {m : Names} {news news' : Ledger} {s : Shared} {Q : Value → Shared → Prop} {x y x' y' : Int} {t1 t2 : Tok} {c tk' : Nat} (hret : RT2 x y h₀ L m news s Q)
    (e1 : x' = x) (e2 : y' = y) (F : Fr h₀ L h' m) (N : News h₀ L h' news') (hD : (D, tupO [.int x' t1, .int y' t2] c) ∈ news') (hs : ∀ p ∈ news, p ∈ news') (hl : AllLt D news) : Q (.ref D) { s with heap := h', toks := tk' } := by
  subst e1; subst e2
  refine hret D t1 t2 c h' tk' F (fun p hp => ?_) (ktn_ltOf hl)
  rcases List.mem_cons.mp hp with rfl | hp
  · exact N _ hD
  · exact N p (hs p hp)
theorem sub1 {q : Addr × Obj} {l l' : Ledger} (h : ∀ p ∈ l, p ∈ l') : ∀ p ∈ l, p ∈ q :: l' := fun p hp => .tail _ (h p hp)
theorem sub0 {l : Ledger} : ∀ p ∈ l, p ∈ l := fun _ h => h

def Dv (b : Int) : Prop := 0 < b ∧ b < 10 ^ 200
theorem Dv.py {a b : Int} (h : Dv b) : Builtin.divisionGoesByPylong a b = false := by
  refine PyProof.noPylong_of_log2 ?_
  have h1 : b.natAbs < 10 ^ 200 := by have := h.1; have := h.2; omega
  have h2 : b.natAbs ≠ 0 := by have := h.1; omega
  have h3 : b.natAbs < 2 ^ 9000 := Nat.lt_trans h1 (by decide +kernel)
  exact (Nat.log2_lt h2).mpr h3
section
variable {prog : Program} {w : World} {A : Around} {E : Value → Shared → Prop} {s : Shared} {a b : Int} {t u : Tok} {Q : Value → Shared → Prop}
theorem dv_div (hb : Dv b) (h : Q (.int (a.fdiv b) s.toks) { s with toks := s.toks + 1 }) : wpAny (model prog w) A (binaryOp .FloorDiv (.int a t) (.int b u)) Q E s :=
  floordiv_int (by have := hb.1; omega) h (.inl hb.py)
theorem dv_mod (hb : Dv b) (h : Q (.int (a.fmod b) s.toks) { s with toks := s.toks + 1 }) : wpAny (model prog w) A (binaryOp .Mod (.int a t) (.int b u)) Q E s :=
  mod_int' (by have := hb.1; omega) h
end
theorem rows2 : True := by
  k_with "binaryOp FloorDiv int int" => (k_here; (with_reducible refine dv_div ?kbeq9 ?_); (case kbeq9 => first | assumption | exact And.intro (by omega) (by omega)))
  k_with "binaryOp Mod int int" => (k_here; (with_reducible refine dv_mod ?kbeq9 ?_); (case kbeq9 => first | assumption | exact And.intro (by omega) (by omega)))
  k_with "my sub" => first | exact sub0 | (refine sub1 ?_; walk_at "my sub")
  k_with "my lt" => first | assumption | exact allLt_of (by assumption) | exact And.right (by assumption) | exact And.right (And.right (by assumption)) | exact And.right (And.right (And.right (by assumption)))
  k_with "my RI" => (refine' retI (by assumption) ?_ ?e2q9 ?e3q9 ?e4q9; (case e2q9 => k_asm); (case e3q9 => assumption); (case e4q9 => walk_at "my sub"))
  k_with "my RT2" => (refine' retT2 (by assumption) ?_ ?_ ?e2q9 ?e3q9 ?e6q9 ?e4q9 ?e7q9; (case e2q9 => k_asm); (case e3q9 => assumption); (case e6q9 => k_mem); (case e4q9 => walk_at "my sub"); (case e7q9 => walk_at "my lt"))
  k_with "my use" => ((case k1q9 => k_asm); (case k2q9 => k_asm); (case k3q9 => k_asm); (case k4q9 => k_asm); (case k5q9 => k_asm); (case k6q9 => first | exact rfl | assumption); (case k8q9 => ktr_room); (case k9q9 => ktr_units))
  trivial
local macro_rules | `(tactic| k_mem) => `(tactic| first | with_reducible assumption | with_reducible exact List.mem_cons_self | (with_reducible refine List.mem_cons_of_mem _ ?_; k_mem))
theorem rows3 : True := by
  k_with "my enter" => (refine' code_def ?k1q9 ?k2q9 ?k3q9 ?k4q9 ?k5q9 ?kAq9 ?kFq9 ?kKq9 ?k6q9 ?k7q9 ?k8q9 ?k9q9 ?kBq9 ?_ ?c2q9 ?c3q9 ?c4q9 ?c5q9; (case kAq9 => exact rfl); (case kFq9 => exact rfl); (case kKq9 => first | assumption | exact rfl); (case k1q9 => k_asm); (case k2q9 => k_asm); (case k3q9 => k_asm); (case k4q9 => k_asm); (case k5q9 => k_asm); (case k6q9 => k_is); (case k7q9 => k_is); (case k8q9 => ktr_room); (case k9q9 => exact BindsTo.of_eq rfl); (case c5q9 => decide); (case kBq9 => exact locs rfl); (case c2q9 => exact rfl); (case c3q9 => exact rfl); (case c4q9 => exact rfl); k_whole; intro g' L' h' FG' F' N' B' X' T'; (try dsimp only); (try k_fold))
  k_with "call ref" => (k_here; (with_reducible show wpAny _ _ (call (Value.ref _) _ []) _ _ _); (refine wpAny_call ?_); k_dflt (walk_at "my enter"))
  k_with "subscriptTail Name Constant ref int" => (k_here; (with_reducible show wpAny _ _ (subscriptTail _ _ (Value.ref _) (Value.int _ _)) _ _ _); k_dflt (refine' item_tupleT ?tq9 ?aq9 ?bq9 ?cq9 ?dq9 ?_; (case tq9 => exact News.isTup (by k_asm) (by k_mem)); (case aq9 => decide); (case bq9 => decide); (case cq9 => rfl); (case dq9 => rfl); k_whole))
  trivial
theorem figs_start {n : Int} (h : n < 10 ^ 90) : ∃ k : Nat, figsGo k n 1 10 = figs n ∧ n < 10 * 10 ^ k ∧ (10 : Int) ≤ 10 ∧ (10 : Int) ≤ 10 ^ 95 := by
  refine ⟨100, rfl, ?_, by omega, by omega⟩
  omega
theorem figs_step {n m b : Int} (h : ∃ k : Nat, figsGo k n m b = figs n ∧ n < b * 10 ^ k ∧ 10 ≤ b ∧ b ≤ 10 ^ 95) (hn : n < 10 ^ 90) (hb : b ≤ n) :
    ∃ k : Nat, figsGo k n (m + 1) (b * 10) = figs n ∧ n < b * 10 * 10 ^ k ∧ 10 ≤ b * 10 ∧ b * 10 ≤ 10 ^ 95 := by
  obtain ⟨k, h1, h2, h3, h4⟩ := h
  cases k with
  | zero => rw [Int.pow_zero, Int.mul_one] at h2; omega
  | succ k =>
    refine ⟨k, ?_, ?_, by omega, by omega⟩
    · rw [← h1]; show _ = (if b ≤ n then _ else _); rw [if_pos hb]
    · rw [Int.pow_succ, Int.mul_comm (10 ^ k) 10, ← Int.mul_assoc] at h2; exact h2
theorem figs_done {n m b : Int} (h : ∃ k : Nat, figsGo k n m b = figs n ∧ n < b * 10 ^ k ∧ 10 ≤ b ∧ b ≤ 10 ^ 95) (hb : ¬ b ≤ n) : m = figs n := by
  obtain ⟨k, h1, h2, h3, h4⟩ := h
  rw [← h1]
  cases k with
  | zero => rfl
  | succ k => show _ = (if b ≤ n then _ else _); rw [if_neg hb]

theorem figs_c (n : Int) (tn : Tok) : CG 44 1 [.int n tn] (fun _ => n < 10 ^ 90) (RI (figs n)) := by
  unfold CG
  k_fill
  intro w loose mean mg mb dp un gd cn cs a ccd cl outer A₀ base h₀ L m news s Q E B F X N T hk hpre hd' hu hret
  refine wpAny_call ?_
  k_dflt cell_enter
  k_with "exec While Compare cons nil" => k_while (fun _ many bound => ∃ k : Nat, figsGo k n many bound = figs n ∧ n < bound * 10 ^ k ∧ 10 ≤ bound ∧ bound ≤ 10 ^ 95) (fun _ many bound => (n + 1 - bound).toNat) "many" "bound"
  k_with "state" => first | exact figs_start hpre | exact figs_step (by assumption) hpre (by assumption) | skip
  k_with "measure" => omega
  k_steps
  walk_at "my RI"
  exact figs_done (by assumption) (by assumption)
theorem rows5 : True := by
  k_with "call ref" => (k_here; (with_reducible show wpAny _ _ (call (Value.ref 44) [Value.int _ _] []) _ _ _); k_dflt (refine' CG.use (figs_c _ _) ?k1q9 ?k2q9 ?k3q9 ?k4q9 ?k5q9 ?k6q9 ?k7q9 ?k8q9 ?k9q9 ?_; walk_at "my use"; (case k7q9 => omega)); intro t9 h9 tk9 F9 N9; (try k_sweep); (try k_fold))
  trivial
theorem pow_dv {p : Int} (h1 : p ≤ 90) : Dv ((10 : Int) ^ p.toNat) := by
  refine ⟨Int.pow_pos (by decide), ?_⟩
  have h : (10 : Nat) ^ p.toNat < 10 ^ 200 := Nat.pow_lt_pow_right (by decide) (by omega)
  have e : (10 : Int) ^ p.toNat = ((10 ^ p.toNat : Nat) : Int) := by simp
  rw [e]
  exact_mod_cast h
theorem rb_c (n p : Int) (tn tp : Tok) : CG 51 2 [.int n tn, .int p tp] (fun _ => 0 ≤ n ∧ n < 10 ^ 90 ∧ 0 < p ∧ p ≤ 90) (RI (rbF n p)) := by
  unfold CG
  k_fill
  intro w loose mean mg mb dp un gd cn cs a ccd cl outer A₀ base h₀ L m news s Q E B F X N T hk hpre hd' hu hret
  obtain ⟨hn0, hn1, hp0, hp1⟩ := hpre
  have h10 := pow_dv hp1
  refine wpAny_call ?_
  k_dflt cell_enter
  k_steps
  all_goals first | (walk_at "my RI"; unfold rbF; (repeat' split) <;> omega) | w_report
theorem rows7 : True := by
  k_with "call ref" => (k_here; (with_reducible show wpAny _ _ (call (Value.ref 51) [Value.int _ _, Value.int _ _] []) _ _ _); k_dflt (refine' CG.use (rb_c _ _ _ _) ?k1q9 ?k2q9 ?k3q9 ?k4q9 ?k5q9 ?k6q9 ?k7q9 ?k8q9 ?k9q9 ?_; walk_at "my use"; (case k7q9 => exact ⟨by omega, by omega, by omega, by omega⟩)); intro t9 h9 tk9 F9 N9; (try k_sweep); (try k_fold))
  trivial
theorem abs_c {prog : Program} {w : World} {A : Around} {E : Value → Shared → Prop} {s : Shared} {c : Int} {t : Tok} {Q : Value → Shared → Prop} (h : ∀ u tk, (c < 0 ∧ iabs c = -c) ∨ (0 ≤ c ∧ iabs c = c) → Q (.int (iabs c) u) { s with toks := tk }) :
    wpAny (model prog w) A (call (.builtin "abs") [.int c t]) Q E s := call_abs_int fun u tk => h u tk (iabs_is c)
theorem with_strip {c e s x : Int} {G : Prop} (h1 : StripI c e s x) (h2 : ¬ Int.fmod s 10 = 0) (h : strip 41 (madeA c e).1 (madeA c e).2 = (s, x) → 0 < s → s < 10 ^ 90 → x + figs s - 1 ≤ 99 → -99 ≤ x + figs s - 1 → G) : G := by
  obtain ⟨a, b, c, d, e⟩ := strip_done h1 h2
  exact h a b c d e
theorem rows9 : True := by
  k_with "call builtin:abs" => (k_here; (with_reducible show wpAny _ _ (call _ [Value.int _ _] []) _ _ _); k_dflt (refine abs_c ?_); intro u9 tk9 habs9)
  k_with "call ref" => (k_here; (with_reducible show wpAny _ _ (call (Value.ref 44) [Value.int _ _] []) _ _ _); (refine' with_strip ?s1q9 ?s2q9 ?_; (case s1q9 => with_reducible assumption); (case s2q9 => with_reducible assumption)); (intro hsd1 hsd0 hsd2 hsd3 hsd4); k_dflt (refine' CG.use (figs_c _ _) ?k1q9 ?k2q9 ?k3q9 ?k4q9 ?k5q9 ?k6q9 ?k7q9 ?k8q9 ?k9q9 ?_; walk_at "my use"; (case k7q9 => exact hsd2)); intro t9 h9 tk9 F9 N9; (try k_sweep); (try k_fold))
  trivial
theorem made_c (c e : Int) (tc te td : Tok) : CG 58 3 [.int c tc, .int e te, .int 12 td] (fun _ => MadeOk c e) (RT2 (madeF c e).1 (madeF c e).2) := by
  unfold CG
  k_fill
  intro w loose mean mg mb dp un gd cn cs a ccd cl outer A₀ base h₀ L m news s Q E B F X N T hk hpre hd' hu hret
  have hpre' := hpre
  obtain ⟨hc0, hc1, he0, he1⟩ := hpre'
  have hf1 := figs_le (n := iabs c) 40 (by have := iabs_is c; omega) (by omega)
  have hr1 := rbF_bounds (n := iabs c) (p := figs (iabs c) - 12) (by have := iabs_is c; omega)
  have hA1 : 0 < figs (iabs c) - 12 → (madeA c e).1 = rbF (iabs c) (figs (iabs c) - 12) ∧ (madeA c e).2 = e + (figs (iabs c) - 12) := fun h => by unfold madeA; rw [if_pos h]; exact ⟨rfl, rfl⟩
  have hA2 : ¬ 0 < figs (iabs c) - 12 → (madeA c e).1 = iabs c ∧ (madeA c e).2 = e := fun h => by unfold madeA; rw [if_neg h]; exact ⟨rfl, rfl⟩
  refine wpAny_call ?_
  k_dflt cell_enter
  k_with "exec While Compare cons nil" => k_while (fun _ size exponent => StripI c e size exponent) (fun _ size exponent => size.toNat) "size" "exponent"
  k_with "state" => first | exact strip_start hpre (by omega) (by omega) (by assumption) | exact strip_step (by assumption) (by assumption) | skip
  k_with "measure" => exact strip_less (by assumption)
  k_steps
  all_goals first | (walk_at "my RT2" <;> first | exact made_zero1 (by omega) | exact made_zero2 (by omega) | exact made_neg (by omega) (by with_reducible assumption) (by omega) | exact made_pos (by omega) (by with_reducible assumption) (by omega) | exact made_ex (by omega) (by with_reducible assumption)) | w_report
theorem rows11 : True := by
  k_with "call ref" => (k_here; (with_reducible show wpAny _ _ (call (Value.ref 58) [Value.int _ _, Value.int _ _, Value.int _ _] []) _ _ _); k_dflt (refine' CG.use (made_c _ _ _ _ _) ?k1q9 ?k2q9 ?k3q9 ?k4q9 ?k5q9 ?k6q9 ?k7q9 ?k8q9 ?k9q9 ?_; walk_at "my use"; (case k7q9 => first | assumption | exact ⟨by omega, by omega, by omega, by omega⟩)); intro D9 t9 u9 c9 h9 tk9 F9 N9 l9; (try k_lt l9); (try k_sweep); (try k_fold))
  trivial
section
variable {prog : Program} {w : World} {A : Around} {E : Value → Shared → Prop} {s : Shared} {t u : Tok} {Q : Value → Shared → Prop}
theorem lsh96 (h : Q (.int 39614081257132168796771975168 s.toks) { s with toks := s.toks + 1 }) : wpAny (model prog w) A (binaryOp .LShift (.int 1 t) (.int (96 - 1) u)) Q E s :=
  lshift_int_small (by decide) (by decide) (by decide) h
theorem lsh64 (h : Q (.int 9223372036854775808 s.toks) { s with toks := s.toks + 1 }) : wpAny (model prog w) A (binaryOp .LShift (.int 1 t) (.int (64 - 1) u)) Q E s :=
  lshift_int_small (by decide) (by decide) (by decide) h
end
theorem rows13 : True := by
  k_with "binaryOp LShift int int" => (k_here; with_reducible refine lsh96 ?_)
  k_with "binaryOp LShift int int" => (k_here; with_reducible refine lsh64 ?_)
  k_with "binaryOp Pow int int" => (k_here; (with_reducible refine pow_int_small ?kb1q9 ?kb2q9 ?kb3q9 ?_); (case kb1q9 => omega); (case kb2q9 => omega); (case kb3q9 => decide))
  trivial
abbrev RB (r : Bool) (h₀ : Heap) (L : Addr) (m : Names) (news : Ledger) (s : Shared) (Q : Value → Shared → Prop) : Prop :=
  ∀ (h' : Heap) (tk' : Nat), Fr h₀ L h' m → News h₀ L h' news → Q (.bool r) { s with heap := h', toks := tk' }
theorem retB {h₀ h' : Heap} {L : Addr} {m : Names} {news news' : Ledger} {s : Shared} {Q : Value → Shared → Prop} {x y : Bool} {tk' : Nat} (hret : RB x h₀ L m news s Q)
    (e : y = x) (F : Fr h₀ L h' m) (N : News h₀ L h' news') (hs : ∀ p ∈ news, p ∈ news') : Q (.bool y) { s with heap := h', toks := tk' } := by
  subst e
  exact hret h' tk' F (cb_drop N hs)
theorem set_c (x : Int) (tx tb td : Tok) : CG 206 2 [.int x tx, .int 96 tb, .int 12 td] (fun _ => -2 ^ 94 < x ∧ x < 2 ^ 94) (RI x) := by
  unfold CG
  k_fill
  intro w loose mean mg mb dp un gd cn cs a ccd cl outer A₀ base h₀ L m news s Q E B F X N T hk hpre hd' hu hret
  obtain ⟨h1, h2⟩ := hpre
  refine wpAny_call ?_
  k_dflt cell_enter
  k_steps
  all_goals first | (walk_at "my RI"; rfl) | w_report
theorem iw_c (x : Int) (tx : Tok) : CG 199 1 [.int x tx] (fun _ => True) (RB true) := by
  unfold CG
  k_fill
  intro w loose mean mg mb dp un gd cn cs a ccd cl outer A₀ base h₀ L m news s Q E B F X N T hk hpre hd' hu hret
  refine wpAny_call ?_
  k_dflt cell_enter
  k_steps
  all_goals first | (refine' retB (by assumption) ?e1 ?e2 ?e3 ?e4; (case e2 => k_asm); (case e3 => assumption); (case e4 => walk_at "my sub"); rfl) | w_report
theorem rows15 : True := by
  k_with "call ref" => (k_here; (with_reducible show wpAny _ _ (call (Value.ref 206) [Value.int _ _, Value.int _ _, Value.int _ _] []) _ _ _); k_dflt (refine' CG.use (set_c _ _ _ _) ?k1q9 ?k2q9 ?k3q9 ?k4q9 ?k5q9 ?k6q9 ?k7q9 ?k8q9 ?k9q9 ?_; walk_at "my use"; (case k7q9 => exact ⟨by omega, by omega⟩)); intro t9 h9 tk9 F9 N9; (try k_sweep); (try k_fold))
  k_with "call ref" => (k_here; (with_reducible show wpAny _ _ (call (Value.ref 199) [Value.int _ _] []) _ _ _); k_dflt (refine' CG.use (iw_c _ _) ?k1q9 ?k2q9 ?k3q9 ?k4q9 ?k5q9 ?k6q9 ?k7q9 ?k8q9 ?k9q9 ?_; walk_at "my use"; (case k7q9 => exact True.intro)); intro h9 tk9 F9 N9; (try k_sweep); (try k_fold))
  trivial
theorem mul_bd (X Y : Nat) {x y : Int} (h1 : -X < x) (h2 : x < X) (h3 : -Y < y) (h4 : y < Y) : -((X * Y : Nat) : Int) < x * y ∧ x * y < ((X * Y : Nat) : Int) := by
  have h : (x * y).natAbs < X * Y := by
    rw [Int.natAbs_mul]
    have a : x.natAbs < X := by omega
    have b : y.natAbs < Y := by omega
    calc x.natAbs * y.natAbs ≤ x.natAbs * Y := Nat.mul_le_mul_left _ (by omega)
      _ < X * Y := Nat.mul_lt_mul_of_pos_right a (by omega)
  omega
theorem mul2_c (x y : Int) (tx to ty : Tok) : CG 269 8 [.int x tx, .str (Str.ofString "*") to, .int y ty] (fun _ => -2 ^ 62 < x ∧ x < 2 ^ 62 ∧ -2 ^ 94 < x * y ∧ x * y < 2 ^ 94) (RI (x * y)) := by
  unfold CG
  k_fill
  intro w loose mean mg mb dp un gd cn cs a ccd cl outer A₀ base h₀ L m news s Q E B F X N T hk hpre hd' hu hret
  obtain ⟨h1, h2, h3, h4⟩ := hpre
  refine wpAny_call ?_
  k_dflt cell_enter
  k_steps
  all_goals first | (walk_at "my RI"; rfl) | w_report
theorem sub2_c (x y : Int) (tx to ty : Tok) : CG 269 8 [.int x tx, .str (Str.ofString "-") to, .int y ty] (fun _ => -2 ^ 92 < x ∧ x < 2 ^ 92 ∧ -2 ^ 92 < y ∧ y < 2 ^ 92) (RI (x - y)) := by
  unfold CG
  k_fill
  intro w loose mean mg mb dp un gd cn cs a ccd cl outer A₀ base h₀ L m news s Q E B F X N T hk hpre hd' hu hret
  obtain ⟨h1, h2, h3, h4⟩ := hpre
  refine wpAny_call ?_
  k_dflt cell_enter
  k_steps
  all_goals first | (walk_at "my RI"; rfl) | w_report
theorem add2_c (x y : Int) (tx to ty : Tok) : CG 269 8 [.int x tx, .str (Str.ofString "+") to, .int y ty] (fun _ => -2 ^ 92 < x ∧ x < 2 ^ 92 ∧ -2 ^ 92 < y ∧ y < 2 ^ 92) (RI (x + y)) := by
  unfold CG
  k_fill
  intro w loose mean mg mb dp un gd cn cs a ccd cl outer A₀ base h₀ L m news s Q E B F X N T hk hpre hd' hu hret
  obtain ⟨h1, h2, h3, h4⟩ := hpre
  refine wpAny_call ?_
  k_dflt cell_enter
  k_steps
  all_goals first | (walk_at "my RI"; rfl) | w_report
theorem iabs_pos {x : Int} (h : 0 ≤ x) : iabs x = x := by unfold iabs; rw [if_neg (by omega)]
theorem dec_same {x y : Int} (h1 : 0 ≤ x) (h2 : 0 < y) (h : (decide (x < 0) == decide (y < 0)) = false) : False := by
  rw [decide_eq_false (by omega), decide_eq_false (by omega)] at h
  cases h
theorem cut_c (x y : Int) (tx ty : Tok) : CG 220 1 [.int x tx, .int y ty] (fun _ => 0 ≤ x ∧ 0 < y ∧ y < 10 ^ 200) (RI (Int.fdiv x y)) := by
  unfold CG
  k_fill
  intro w loose mean mg mb dp un gd cn cs a ccd cl outer A₀ base h₀ L m news s Q E B F X N T hk hpre hd' hu hret
  obtain ⟨h1, h2, h3⟩ := hpre
  refine wpAny_call ?_
  k_dflt cell_enter
  k_steps
  all_goals first | (walk_at "my RI"; first | (rw [iabs_pos h1, iabs_pos (by omega)]; done) | exact (dec_same h1 h2 (by assumption)).elim) | w_report
theorem rows18 : True := by
  k_with "call ref" => (k_here; (with_reducible show wpAny _ _ (call (Value.ref 220) [Value.int _ _, Value.int _ _] []) _ _ _); k_dflt (refine' CG.use (cut_c _ _ _ _) ?k1q9 ?k2q9 ?k3q9 ?k4q9 ?k5q9 ?k6q9 ?k7q9 ?k8q9 ?k9q9 ?_; walk_at "my use"; (case k7q9 => exact ⟨by omega, by omega, by omega⟩)); intro t9 h9 tk9 F9 N9; (try k_sweep); (try k_fold))
  trivial
theorem div_bd {x y : Int} (h1 : 0 ≤ x) (h2 : 0 < y) : 0 ≤ Int.fdiv x y ∧ Int.fdiv x y ≤ x := fdiv_bounds h1 h2
theorem div2_c (x y : Int) (tx to ty : Tok) : CG 269 8 [.int x tx, .str (Str.ofString "\\") to, .int y ty] (fun _ => 0 ≤ x ∧ x < 2 ^ 62 ∧ 0 < y ∧ y < 2 ^ 62) (RI (Int.fdiv x y)) := by
  unfold CG
  k_fill
  intro w loose mean mg mb dp un gd cn cs a ccd cl outer A₀ base h₀ L m news s Q E B F X N T hk hpre hd' hu hret
  obtain ⟨h1, h2, h3, h4⟩ := hpre
  have hv := div_bd h1 h3
  refine wpAny_call ?_
  k_dflt cell_enter
  k_steps
  all_goals first | (walk_at "my RI"; rfl) | w_report
theorem rows20 : True := by
  k_with "call ref" => (k_here; (with_reducible show wpAny _ _ (call (Value.ref 269) [Value.int _ _, Value.str (Str.ofString "*") _, Value.int _ _] []) _ _ _); k_dflt (refine' CG.use (mul2_c _ _ _ _ _) ?k1q9 ?k2q9 ?k3q9 ?k4q9 ?k5q9 ?k6q9 ?k7q9 ?k8q9 ?k9q9 ?_; walk_at "my use"; (case k7q9 => exact ⟨by omega, by omega, by omega, by omega⟩)); intro t9 h9 tk9 F9 N9; (try k_sweep); (try k_fold))
  k_with "call ref" => (k_here; (with_reducible show wpAny _ _ (call (Value.ref 269) [Value.int _ _, Value.str (Str.ofString "-") _, Value.int _ _] []) _ _ _); k_dflt (refine' CG.use (sub2_c _ _ _ _ _) ?k1q9 ?k2q9 ?k3q9 ?k4q9 ?k5q9 ?k6q9 ?k7q9 ?k8q9 ?k9q9 ?_; walk_at "my use"; (case k7q9 => exact ⟨by omega, by omega, by omega, by omega⟩)); intro t9 h9 tk9 F9 N9; (try k_sweep); (try k_fold))
  k_with "call ref" => (k_here; (with_reducible show wpAny _ _ (call (Value.ref 269) [Value.int _ _, Value.str (Str.ofString "+") _, Value.int _ _] []) _ _ _); k_dflt (refine' CG.use (add2_c _ _ _ _ _) ?k1q9 ?k2q9 ?k3q9 ?k4q9 ?k5q9 ?k6q9 ?k7q9 ?k8q9 ?k9q9 ?_; walk_at "my use"; (case k7q9 => exact ⟨by omega, by omega, by omega, by omega⟩)); intro t9 h9 tk9 F9 N9; (try k_sweep); (try k_fold))
  k_with "call ref" => (k_here; (with_reducible show wpAny _ _ (call (Value.ref 269) [Value.int _ _, Value.str (Str.ofString "\\") _, Value.int _ _] []) _ _ _); k_dflt (refine' CG.use (div2_c _ _ _ _ _) ?k1q9 ?k2q9 ?k3q9 ?k4q9 ?k5q9 ?k6q9 ?k7q9 ?k8q9 ?k9q9 ?_; walk_at "my use"; (case k7q9 => exact ⟨by omega, by omega, by omega, by omega⟩)); intro t9 h9 tk9 F9 N9; (try k_sweep); (try k_fold))
  trivial
abbrev RT3 (x y z : Int) (h₀ : Heap) (L : Addr) (m : Names) (news : Ledger) (s : Shared) (Q : Value → Shared → Prop) : Prop :=
  ∀ (D : Addr) (t1 t2 t3 : Tok) (c : Nat) (h' : Heap) (tk' : Nat), Fr h₀ L h' m → News h₀ L h' ((D, tupO [.int x t1, .int y t2, .int z t3] c) :: news) → (∀ p ∈ news, p.1 < D) → Q (.ref D) { s with heap := h', toks := tk' }
theorem retT3 {h₀ h' : Heap} {L D : Addr} {m : Names} {news news' : Ledger} {s : Shared} {Q : Value → Shared → Prop} {x y z x' y' z' : Int} {t1 t2 t3 : Tok} {c tk' : Nat} (hret : RT3 x y z h₀ L m news s Q)
    (e1 : x' = x) (e2 : y' = y) (e3 : z' = z) (F : Fr h₀ L h' m) (N : News h₀ L h' news') (hD : (D, tupO [.int x' t1, .int y' t2, .int z' t3] c) ∈ news') (hs : ∀ p ∈ news, p ∈ news') (hl : AllLt D news) : Q (.ref D) { s with heap := h', toks := tk' } := by
  subst e1; subst e2; subst e3
  refine hret D t1 t2 t3 c h' tk' F (fun p hp => ?_) (ktn_ltOf hl)
  rcases List.mem_cons.mp hp with rfl | hp
  · exact N _ hD
  · exact N p (hs p hp)
def nxA (A B P : Int) : Int := B * P - A
def nxB (n A B P : Int) : Int := Int.fdiv (n - (B * P - A) * (B * P - A)) B
def nxP (n f A B P : Int) : Int := Int.fdiv (f + (B * P - A)) (Int.fdiv (n - (B * P - A) * (B * P - A)) B)
def NextOk (n f A B P : Int) : Prop := -2 ^ 40 < A ∧ A < 2 ^ 40 ∧ 0 < B ∧ B < 2 ^ 40 ∧ -2 ^ 80 < B * P ∧ B * P < 2 ^ 80 ∧ -2 ^ 40 < B * P - A ∧ B * P - A < 2 ^ 40 ∧
  0 ≤ n - (B * P - A) * (B * P - A) ∧ n - (B * P - A) * (B * P - A) < 2 ^ 40 ∧ 0 < Int.fdiv (n - (B * P - A) * (B * P - A)) B ∧ Int.fdiv (n - (B * P - A) * (B * P - A)) B < 2 ^ 40 ∧ 0 ≤ f + (B * P - A) ∧ f + (B * P - A) < 2 ^ 40
theorem next_c {n f A B P : Int} {st : Addr} {tn tf tA tB tP : Tok} {c : Nat} : CG 276 9 [.int n tn, .int f tf, .ref st] (fun news => (st, tupO [.int A tA, .int B tB, .int P tP] c) ∈ news ∧ NextOk n f A B P) (RT3 (nxA A B P) (nxB n A B P) (nxP n f A B P)) := by
  unfold CG
  k_fill
  intro w loose mean mg mb dp un gd cn cs a ccd cl outer A₀ base h₀ L m news s Q E Bl F X N T hk hpre hd' hu hret
  obtain ⟨hst, h1, h2, h3, h4, h5, h6, h7, h8, h9, h10, h11, h12, h13, h14⟩ := hpre
  refine wpAny_call ?_
  k_dflt cell_enter
  k_steps
  all_goals first | (refine' retT3 (by assumption) ?e1 ?e5 ?e8 ?e2 ?e3 ?e6 ?e4 ?e7; (case e2 => k_asm); (case e3 => assumption); (case e6 => k_mem); (case e4 => walk_at "my sub"); (case e7 => walk_at "my lt"); (all_goals rfl)) | w_report
theorem told_c (n x y : Int) (tn tx ty : Tok) : CG 283 9 [.int n tn, .int x tx, .int y ty] (fun _ => -2 ^ 46 < x ∧ x < 2 ^ 46 ∧ -2 ^ 40 < y ∧ y < 2 ^ 40 ∧ 0 < n ∧ n < 2 ^ 10) (RI (x * x - n * (y * y))) := by
  unfold CG
  k_fill
  intro w loose mean mg mb dp un gd cn cs a ccd cl outer A₀ base h₀ L m news s Q E B F X N T hk hpre hd' hu hret
  obtain ⟨h1, h2, h3, h4, h5, h6⟩ := hpre
  have m1 := mul_bd (2 ^ 46) (2 ^ 46) (x := x) (y := x) (by omega) (by omega) (by omega) (by omega)
  have m2 := mul_bd (2 ^ 40) (2 ^ 40) (x := y) (y := y) (by omega) (by omega) (by omega) (by omega)
  have m3 := mul_bd (2 ^ 10) (2 ^ 80) (x := n) (y := y * y) (by omega) (by omega) (by omega) (by omega)
  have m1' : -2 ^ 92 < x * x ∧ x * x < 2 ^ 92 := by omega
  have m2' : -2 ^ 80 < y * y ∧ y * y < 2 ^ 80 := by omega
  have m3' : -2 ^ 90 < n * (y * y) ∧ n * (y * y) < 2 ^ 90 := by omega
  clear m1 m2 m3
  refine wpAny_call ?_
  k_dflt cell_enter
  k_steps
  all_goals first | (walk_at "my RI"; rfl) | w_report
theorem rest_c (x r e : Int) (tx tr te : Tok) : CG 136 1 [.int x tx, .int r tr, .int e te] (fun _ => True) (RT2 (if r = 0 then x else x * 10 + 1) (if r = 0 then e else e - 1)) := by
  unfold CG
  k_fill
  intro w loose mean mg mb dp un gd cn cs a ccd cl outer A₀ base h₀ L m news s Q E B F X N T hk hpre hd' hu hret
  refine wpAny_call ?_
  k_dflt cell_enter
  k_steps
  all_goals first | (walk_at "my RT2" <;> first | (rw [if_pos (by assumption)]; done) | (rw [if_neg (by assumption)]; done)) | w_report
theorem rows24 : True := by
  k_with "call ref" => (k_here; (with_reducible show wpAny _ _ (call (Value.ref 136) [Value.int _ _, Value.int _ _, Value.int _ _] []) _ _ _); k_dflt (refine' CG.use (rest_c _ _ _ _ _ _) ?k1q9 ?k2q9 ?k3q9 ?k4q9 ?k5q9 ?k6q9 ?k7q9 ?k8q9 ?k9q9 ?_; walk_at "my use"; (case k7q9 => exact True.intro)); intro D9 t9 u9 c9 h9 tk9 F9 N9 l9; (try k_lt l9); (try k_sweep); (try k_fold))
  k_with "my RT3" => (refine' retT3 (by assumption) ?_ ?_ ?_ ?e2q9 ?e3q9 ?e6q9 ?e4q9 ?e7q9; (case e2q9 => k_asm); (case e3q9 => assumption); (case e6q9 => k_mem); (case e4q9 => walk_at "my sub"); (case e7q9 => walk_at "my lt"))
  trivial
def imin (a b : Int) : Int := if b < a then b else a
theorem imin_is (a b : Int) : (imin a b = a ∨ imin a b = b) ∧ imin a b ≤ a ∧ imin a b ≤ b := by
  unfold imin
  split <;> omega
theorem min_c {prog : Program} {w : World} {A : Around} {E : Value → Shared → Prop} {s : Shared} {h₀ : Heap} {L : Addr} {m : Names} {news : Ledger} {a b : Int} {t u : Tok} {Q : Value → Shared → Prop} (hh : A.handled = none) (F : Fr h₀ L s.heap m) (N : News h₀ L s.heap news)
    (h : ∀ h' tk t', (imin a b = a ∨ imin a b = b) ∧ imin a b ≤ a ∧ imin a b ≤ b → Fr h₀ L h' m → News h₀ L h' news → Q (.int (imin a b) t') { s with heap := h', toks := tk }) :
    wpAny (model prog w) A (call (.builtin "min") [.int a t, .int b u]) Q E s := min_two_N hh F N fun h' tk F' N' => h h' tk _ (imin_is a b) F' N'
theorem rows26 : True := by
  k_with "call builtin:min" => (k_here; (with_reducible show wpAny _ _ (call _ [Value.int _ _, Value.int _ _] []) _ _ _); k_dflt (refine' min_c ?k1q9 ?k2q9 ?k3q9 ?_; (case k1q9 => with_unfolding_all rfl); (case k2q9 => k_asm); (case k3q9 => k_asm)); intro h9 tk9 t9 hmin9 F9 N9; (try k_sweep); (try k_fold))
  trivial
def DecOk (x e : Int) : Prop := -10 ^ 14 < x ∧ x < 10 ^ 14 ∧ -40 ≤ e ∧ e ≤ 20
def al1 (x e g : Int) : Int := x * 10 ^ (e - imin e g).toNat
def al2 (y e g : Int) : Int := y * 10 ^ (g - imin e g).toNat
theorem alike_c {a1 a2 : Addr} {x e y g : Int} {tx te ty tg : Tok} {c1 c2 : Nat} : CG 108 1 [.ref a1, .ref a2] (fun news => (a1, tupO [.int x tx, .int e te] c1) ∈ news ∧ (a2, tupO [.int y ty, .int g tg] c2) ∈ news ∧ DecOk x e ∧ DecOk y g) (RT3 (al1 x e g) (al2 y e g) (imin e g)) := by
  unfold CG
  k_fill
  intro w loose mean mg mb dp un gd cn cs a ccd cl outer A₀ base h₀ L m news s Q E Bl F X N T hk hpre hd' hu hret
  obtain ⟨hm1, hm2, ⟨h1, h2, h3, h4⟩, ⟨h5, h6, h7, h8⟩⟩ := hpre
  refine wpAny_call ?_
  k_dflt cell_enter
  k_steps
  all_goals first | (walk_at "my RT3" <;> rfl) | w_report
theorem rows28 : True := by
  k_with "call ref" => (k_here; (with_reducible show wpAny _ _ (call (Value.ref 108) [Value.ref _, Value.ref _] []) _ _ _); k_dflt (refine' CG.use alike_c ?k1q9 ?k2q9 ?k3q9 ?k4q9 ?k5q9 ?k6q9 ?k7q9 ?k8q9 ?k9q9 ?_; walk_at "my use"; (case k7q9 => first | exact ⟨by k_mem, by k_mem, by assumption, by assumption⟩ | exact ⟨by k_mem, by k_mem, ⟨by omega, by omega, by omega, by omega⟩, ⟨by omega, by omega, by omega, by omega⟩⟩)); intro D9 t9 u9 v9 c9 h9 tk9 F9 N9 l9; (try k_lt l9); (try k_sweep); (try k_fold))
  trivial
def cmpF (x e y g : Int) : Int := b2i (decide (al2 y e g < al1 x e g)) - b2i (decide (al1 x e g < al2 y e g))
theorem cmp_c {a1 a2 : Addr} {x e y g : Int} {tx te ty tg : Tok} {c1 c2 : Nat} : CG 150 2 [.ref a1, .ref a2] (fun news => (a1, tupO [.int x tx, .int e te] c1) ∈ news ∧ (a2, tupO [.int y ty, .int g tg] c2) ∈ news ∧ DecOk x e ∧ DecOk y g) (RI (cmpF x e y g)) := by
  unfold CG
  k_fill
  intro w loose mean mg mb dp un gd cn cs a ccd cl outer A₀ base h₀ L m news s Q E Bl F X N T hk hpre hd' hu hret
  obtain ⟨hm1, hm2, h1, h2⟩ := hpre
  refine wpAny_call ?_
  k_dflt cell_enter
  k_steps
  all_goals first | (walk_at "my RI"; rfl) | w_report
theorem rows30 : True := by
  k_with "call ref" => (k_here; (with_reducible show wpAny _ _ (call (Value.ref 150) [Value.ref _, Value.ref _] []) _ _ _); k_dflt (refine' CG.use cmp_c ?k1q9 ?k2q9 ?k3q9 ?k4q9 ?k5q9 ?k6q9 ?k7q9 ?k8q9 ?k9q9 ?_; walk_at "my use"; (case k7q9 => first | exact ⟨by k_mem, by k_mem, by assumption, by assumption⟩ | exact ⟨by k_mem, by k_mem, ⟨by omega, by omega, by omega, by omega⟩, ⟨by omega, by omega, by omega, by omega⟩⟩)); intro t9 h9 tk9 F9 N9; (try k_sweep); (try k_fold))
  trivial
def subF (x e y g : Int) : Int × Int := madeF (al1 x e g + al2 (0 - y) e g) (imin e g)
theorem sub_c {a1 a2 : Addr} {x e y g : Int} {tx te ty tg : Tok} {c1 c2 : Nat} {td : Tok} : CG 122 5 [.ref a1, .ref a2, .int 12 td] (fun news => (a1, tupO [.int x tx, .int e te] c1) ∈ news ∧ (a2, tupO [.int y ty, .int g tg] c2) ∈ news ∧ DecOk x e ∧ DecOk y g ∧ MadeOk (al1 x e g + al2 (0 - y) e g) (imin e g)) (RT2 (subF x e y g).1 (subF x e y g).2) := by
  unfold CG
  k_fill
  intro w loose mean mg mb dp un gd cn cs a ccd cl outer A₀ base h₀ L m news s Q E Bl F X N T hk hpre hd' hu hret
  obtain ⟨hm1, hm2, h1, ⟨h5, h6, h7, h8⟩, hmk⟩ := hpre
  have h2 : DecOk (0 - y) g := ⟨by omega, by omega, by omega, by omega⟩
  refine wpAny_call ?_
  k_dflt cell_enter
  k_steps
  all_goals first | (walk_at "my RT2" <;> rfl) | w_report
theorem rows32 : True := by
  k_with "call ref" => (k_here; (with_reducible show wpAny _ _ (call (Value.ref 122) [Value.ref _, Value.ref _, Value.int _ _] []) _ _ _); k_dflt (refine' CG.use sub_c ?k1q9 ?k2q9 ?k3q9 ?k4q9 ?k5q9 ?k6q9 ?k7q9 ?k8q9 ?k9q9 ?_; walk_at "my use"; (case k7q9 => exact ⟨by k_mem, by k_mem, by assumption, by assumption, by assumption⟩)); intro D9 t9 u9 c9 h9 tk9 F9 N9 l9; (try k_lt l9); (try k_sweep); (try k_fold))
  trivial
theorem size_c {a1 : Addr} {x e : Int} {tx te : Tok} {c1 : Nat} : CG 101 1 [.ref a1] (fun news => (a1, tupO [.int x tx, .int e te] c1) ∈ news) (RT2 (iabs x) e) := by
  unfold CG
  k_fill
  intro w loose mean mg mb dp un gd cn cs a ccd cl outer A₀ base h₀ L m news s Q E Bl F X N T hk hpre hd' hu hret
  have hm1 := hpre
  refine wpAny_call ?_
  k_dflt cell_enter
  k_steps
  all_goals first | (walk_at "my RT2" <;> rfl) | w_report
theorem rows34 : True := by
  k_with "call ref" => (k_here; (with_reducible show wpAny _ _ (call (Value.ref 101) [Value.ref _] []) _ _ _); k_dflt (refine' CG.use size_c ?k1q9 ?k2q9 ?k3q9 ?k4q9 ?k5q9 ?k6q9 ?k7q9 ?k8q9 ?k9q9 ?_; walk_at "my use"; (case k7q9 => k_mem)); intro D9 t9 u9 c9 h9 tk9 F9 N9 l9; (try k_lt l9); (try k_sweep); (try k_fold))
  trivial
theorem dec_c (x : Int) (tx td : Tok) : CG 86 4 [.int x tx, .int 12 td] (fun _ => MadeOk x 0) (RT2 (madeF x 0).1 (madeF x 0).2) := by
  unfold CG
  k_fill
  intro w loose mean mg mb dp un gd cn cs a ccd cl outer A₀ base h₀ L m news s Q E Bl F X N T hk hpre hd' hu hret
  refine wpAny_call ?_
  k_dflt cell_enter
  k_steps
  all_goals first | (walk_at "my RT2" <;> rfl) | w_report
theorem rows36 : True := by
  k_with "call ref" => (k_here; (with_reducible show wpAny _ _ (call (Value.ref 86) [Value.int _ _, Value.int _ _] []) _ _ _); k_dflt (refine' CG.use (dec_c _ _ _) ?k1q9 ?k2q9 ?k3q9 ?k4q9 ?k5q9 ?k6q9 ?k7q9 ?k8q9 ?k9q9 ?_; walk_at "my use"; (case k7q9 => first | assumption | exact ⟨by omega, by omega, by omega, by omega⟩)); intro D9 t9 u9 c9 h9 tk9 F9 N9 l9; (try k_lt l9); (try k_sweep); (try k_fold))
  trivial
def imax (a b : Int) : Int := if a < b then b else a
theorem imax_is (a b : Int) : (imax a b = a ∨ imax a b = b) ∧ a ≤ imax a b ∧ b ≤ imax a b := by
  unfold imax
  split <;> omega
theorem max_c {prog : Program} {w : World} {A : Around} {E : Value → Shared → Prop} {s : Shared} {h₀ : Heap} {L : Addr} {m : Names} {news : Ledger} {a b : Int} {t u : Tok} {Q : Value → Shared → Prop} (hh : A.handled = none) (F : Fr h₀ L s.heap m) (N : News h₀ L s.heap news)
    (h : ∀ h' tk t', (imax a b = a ∨ imax a b = b) ∧ a ≤ imax a b ∧ b ≤ imax a b → Fr h₀ L h' m → News h₀ L h' news → Q (.int (imax a b) t') { s with heap := h', toks := tk }) :
    wpAny (model prog w) A (call (.builtin "max") [.int a t, .int b u]) Q E s := max_two_N hh F N fun h' tk F' N' => h h' tk _ (imax_is a b) F' N'
theorem ite_pos_of {c : Prop} [Decidable c] {A B : Prop} (h : c) (a : A) : ite c A B := by rw [if_pos h]; exact a
theorem dec_true {x y : Int} (h1 : 0 ≤ x) (h2 : 0 < y) : (decide (x < 0) == decide (y < 0)) = true := by
  rw [decide_eq_false (by omega), decide_eq_false (by omega)]
  rfl
theorem rows38 : True := by
  k_with "call builtin:max" => (k_here; (with_reducible show wpAny _ _ (call _ [Value.int _ _, Value.int _ _] []) _ _ _); k_dflt (refine' max_c ?k1q9 ?k2q9 ?k3q9 ?_; (case k1q9 => with_unfolding_all rfl); (case k2q9 => k_asm); (case k3q9 => k_asm)); intro h9 tk9 t9 hmax9 F9 N9; (try k_sweep); (try k_fold))
  k_with "ite" => ((with_reducible refine ite_pos_of ?h9q9 ?_); (case h9q9 => with_reducible assumption))
  trivial
def dvP (x y : Int) : Int := 12 + 2 + imax 0 (figs (iabs y) - figs (iabs x))
def dvS (x y : Int) : Int := iabs x * 10 ^ (dvP x y).toNat
def dvW (x y : Int) : Int := if Int.fmod (dvS x y) (iabs y) = 0 then Int.fdiv (dvS x y) (iabs y) else Int.fdiv (dvS x y) (iabs y) * 10 + 1
def dvE (x e y g : Int) : Int := if Int.fmod (dvS x y) (iabs y) = 0 then e - g - dvP x y else e - g - dvP x y - 1
def divF (x e y g : Int) : Int × Int := madeF (dvW x y) (dvE x e y g)
theorem div_c {a1 a2 : Addr} {x e y g : Int} {tx te ty tg : Tok} {c1 c2 : Nat} {td : Tok} : CG 143 5 [.ref a1, .ref a2, .int 12 td] (fun news => (a1, tupO [.int x tx, .int e te] c1) ∈ news ∧ (a2, tupO [.int y ty, .int g tg] c2) ∈ news ∧ DecOk x e ∧ DecOk y g ∧ 0 ≤ x ∧ 0 < y ∧ MadeOk (dvW x y) (dvE x e y g)) (RT2 (divF x e y g).1 (divF x e y g).2) := by
  unfold CG
  k_fill
  intro w loose mean mg mb dp un gd cn cs a ccd cl outer A₀ base h₀ L m news s Q E Bl F X N T hk hpre hd' hu hret
  obtain ⟨hm1, hm2, ⟨h1, h2, h3, h4⟩, ⟨h5, h6, h7, h8⟩, hx, hy, hmk⟩ := hpre
  have hds := dec_true hx hy
  have hf1 := figs_le (n := iabs x) 40 (by have := iabs_is x; omega) (by omega)
  have hf2 := figs_le (n := iabs y) 40 (by have := iabs_is y; omega) (by omega)
  have hg1 := figs_ge (iabs x)
  have hg2 := figs_ge (iabs y)
  refine wpAny_call ?_
  k_dflt cell_enter
  k_steps
  all_goals first | (walk_at "my RT2" <;> rfl) | w_report
theorem rows40 : True := by
  k_with "call ref" => (k_here; (with_reducible show wpAny _ _ (call (Value.ref 143) [Value.ref _, Value.ref _, Value.int _ _] []) _ _ _); k_dflt (refine' CG.use div_c ?k1q9 ?k2q9 ?k3q9 ?k4q9 ?k5q9 ?k6q9 ?k7q9 ?k8q9 ?k9q9 ?_; walk_at "my use"; (case k7q9 => exact ⟨by k_mem, by k_mem, by assumption, by assumption, by assumption, by assumption, by assumption⟩)); intro D9 t9 u9 c9 h9 tk9 F9 N9 l9; (try k_lt l9); (try k_sweep); (try k_fold))
  trivial
def rootGo : Nat → Int → Int → Option Int
  | 0, _, _ => none
  | k + 1, n, g => if g ≤ Int.fdiv (g + Int.fdiv n g) 2 then some g else rootGo k n (Int.fdiv (g + Int.fdiv n g) 2)
def rootOf (n : Int) : Option Int := rootGo 200 n (10 ^ (Int.fdiv (figs n) 2 + 1).toNat)
def RootI (n r g : Int) : Prop := ∃ k : Nat, rootGo k n g = some r ∧ 0 < g ∧ g < 10 ^ 200
theorem root_start {n r : Int} (h : rootOf n = some r) (hn : n < 10 ^ 90) : RootI n r (10 ^ (Int.fdiv (figs n) 2 + 1).toNat) := by
  have h1 := figs_le 90 hn (by omega)
  have h2 := figs_ge n
  have hd : figs n = 2 * Int.fdiv (figs n) 2 + Int.fmod (figs n) 2 := by rw [Int.mul_fdiv_add_fmod]
  have h6 : 0 ≤ Int.fmod (figs n) 2 := Int.fmod_nonneg_of_pos _ (by decide)
  have := pow_dv (p := Int.fdiv (figs n) 2 + 1) (by omega)
  exact ⟨200, h, this.1, this.2⟩
theorem root_step {n r g : Int} (h : RootI n r g) (hn : 2 ≤ n) (hg : ¬ g ≤ Int.fdiv (g + Int.fdiv n g) 2) : RootI n r (Int.fdiv (g + Int.fdiv n g) 2) ∧ (Int.fdiv (g + Int.fdiv n g) 2).toNat < g.toNat := by
  obtain ⟨k, h1, h2, h3⟩ := h
  have hb := fdiv_bounds (n := n) (by omega) h2
  have hp : 2 ≤ g + Int.fdiv n g := by
    by_cases h9 : g = 1
    · subst h9; rw [Int.fdiv_one]; omega
    · omega
  have hd : g + Int.fdiv n g = 2 * Int.fdiv (g + Int.fdiv n g) 2 + Int.fmod (g + Int.fdiv n g) 2 := by rw [Int.mul_fdiv_add_fmod]
  have h6 : 0 ≤ Int.fmod (g + Int.fdiv n g) 2 := Int.fmod_nonneg_of_pos _ (by decide)
  have h7 : Int.fmod (g + Int.fdiv n g) 2 < 2 := Int.fmod_lt_of_pos _ (by decide)
  cases k with
  | zero => cases h1
  | succ k =>
    have h8 : rootGo (k + 1) n g = rootGo k n (Int.fdiv (g + Int.fdiv n g) 2) := by
      show (if g ≤ Int.fdiv (g + Int.fdiv n g) 2 then _ else _) = _
      rw [if_neg hg]
    rw [h8] at h1
    exact ⟨⟨k, h1, by omega, by omega⟩, by omega⟩
theorem root_done {n r g : Int} (h : RootI n r g) (hg : g ≤ Int.fdiv (g + Int.fdiv n g) 2) : g = r := by
  obtain ⟨k, h1, h2, h3⟩ := h
  cases k with
  | zero => cases h1
  | succ k =>
    have h8 : rootGo (k + 1) n g = some g := by
      show (if g ≤ Int.fdiv (g + Int.fdiv n g) 2 then _ else _) = _
      rw [if_pos hg]
    rw [h8] at h1
    exact Option.some.inj h1
theorem root_pos {n r g : Int} (h : RootI n r g) : Dv g := by
  obtain ⟨k, h1, h2, h3⟩ := h
  exact ⟨h2, h3⟩
theorem rows42 : True := by
  k_with "binaryOp FloorDiv int int" => (k_here; (with_reducible refine dv_div ?kbeq9 ?_); (case kbeq9 => exact root_pos (by with_reducible assumption)))
  trivial
theorem root_c {n r : Int} {tn : Tok} : CG 185 2 [.int n tn] (fun _ => 2 ≤ n ∧ n < 10 ^ 40 ∧ rootOf n = some r) (RI r) := by
  unfold CG
  k_fill
  intro w loose mean mg mb dp un gd cn cs a ccd cl outer A₀ base h₀ L m news s Q E Bl F X N T hk hpre hd' hu hret
  obtain ⟨h1, h2, h3⟩ := hpre
  have hf := figs_le 40 h2 (by omega)
  have hg := figs_ge n
  have hd : figs n = 2 * Int.fdiv (figs n) 2 + Int.fmod (figs n) 2 := by rw [Int.mul_fdiv_add_fmod]
  have h6 : 0 ≤ Int.fmod (figs n) 2 := Int.fmod_nonneg_of_pos _ (by decide)
  have h7 : Int.fmod (figs n) 2 < 2 := Int.fmod_lt_of_pos _ (by decide)
  refine wpAny_call ?_
  k_dflt cell_enter
  k_with "exec While" => k_while (fun _ guess => RootI n r guess) (fun _ guess => guess.toNat) "guess"
  k_with "state" => first | exact root_start h3 (by omega) | exact (root_step (by assumption) (by omega) (by omega)).1 | skip
  k_with "measure" => exact (root_step (by assumption) (by omega) (by omega)).2
  k_steps
  all_goals first | (walk_at "my RI"; exact root_done (by assumption) (by assumption)) | w_report
theorem rows44 : True := by
  k_with "call ref" => (k_here; (with_reducible show wpAny _ _ (call (Value.ref 185) [Value.int _ _] []) _ _ _); k_dflt (refine' CG.use root_c ?k1q9 ?k2q9 ?k3q9 ?k4q9 ?k5q9 ?k6q9 ?k7q9 ?k8q9 ?k9q9 ?_; walk_at "my use"; (case k7q9 => exact ⟨by assumption, by assumption, by assumption⟩)); intro t9 h9 tk9 F9 N9; (try k_sweep); (try k_fold))
  trivial
def drW (S r : Int) : Int := if S - r * r = 0 then r else r * 10 + 1
def drE (e P S r : Int) : Int := if S - r * r = 0 then Int.fdiv (e - P) 2 else Int.fdiv (e - P) 2 - 1
theorem droot_c {a1 : Addr} {x e P r : Int} {tx te td : Tok} {c1 : Nat} : CG 192 4 [.ref a1, .int 12 td] (fun news => (a1, tupO [.int x tx, .int e te] c1) ∈ news ∧ ((e = 0 ∧ P = 2 * 12 + 4) ∨ (e = 1 ∧ P = 2 * 12 + 4 + 1)) ∧ 0 < x ∧ x < 100 ∧
    2 ≤ x * 10 ^ P.toNat ∧ x * 10 ^ P.toNat < 10 ^ 40 ∧ rootOf (x * 10 ^ P.toNat) = some r ∧ 0 ≤ r ∧ r < 10 ^ 17 ∧ MadeOk (drW (x * 10 ^ P.toNat) r) (drE e P (x * 10 ^ P.toNat) r))
    (RT2 (madeF (drW (x * 10 ^ P.toNat) r) (drE e P (x * 10 ^ P.toNat) r)).1 (madeF (drW (x * 10 ^ P.toNat) r) (drE e P (x * 10 ^ P.toNat) r)).2) := by
  unfold CG
  k_fill
  intro w loose mean mg mb dp un gd cn cs a ccd cl outer A₀ base h₀ L m news s Q E Bl F X N T hk hpre hd' hu hret
  obtain ⟨hm1, hP, h1, h2, h3, h4, h5, h6, h7, hmk⟩ := hpre
  rcases hP with ⟨rfl, rfl⟩ | ⟨rfl, rfl⟩
  all_goals (
    refine wpAny_call ?_
    k_dflt cell_enter
    k_steps)
  all_goals first | (walk_at "my RT2" <;> rfl) | w_report
theorem rows46 : True := by
  k_with "call ref" => (k_here; (with_reducible show wpAny _ _ (call (Value.ref 192) [Value.ref _, Value.int _ _] []) _ _ _); k_dflt (refine' CG.use droot_c ?k1q9 ?k2q9 ?k3q9 ?k4q9 ?k5q9 ?k6q9 ?k7q9 ?k8q9 ?k9q9 ?_; walk_at "my use"; (case k7q9 => exact ⟨by k_mem, by assumption, by assumption, by assumption, by assumption, by assumption, by assumption, by assumption, by assumption, by assumption⟩)); intro D9 t9 u9 c9 h9 tk9 F9 N9 l9; (try k_lt l9); (try k_sweep); (try k_fold))
  trivial
theorem whole_c {a1 : Addr} {x e : Int} {tx te td : Tok} {c1 : Nat} : CG 178 4 [.ref a1, .int 12 td] (fun news => (a1, tupO [.int x tx, .int e te] c1) ∈ news ∧ e < 0 ∧ DecOk x e ∧ MadeOk (Int.fdiv x (10 ^ (0 - e).toNat)) 0)
    (RT2 (madeF (Int.fdiv x (10 ^ (0 - e).toNat)) 0).1 (madeF (Int.fdiv x (10 ^ (0 - e).toNat)) 0).2) := by
  unfold CG
  k_fill
  intro w loose mean mg mb dp un gd cn cs a ccd cl outer A₀ base h₀ L m news s Q E Bl F X N T hk hpre hd' hu hret
  obtain ⟨hm1, h1, ⟨h2, h3, h4, h5⟩, hmk⟩ := hpre
  have h10 := pow_dv (p := 0 - e) (by omega)
  refine wpAny_call ?_
  k_dflt cell_enter
  k_steps
  all_goals first | (walk_at "my RT2" <;> rfl) | w_report
theorem rows48 : True := by
  k_with "call ref" => (k_here; (with_reducible show wpAny _ _ (call (Value.ref 178) [Value.ref _, Value.int _ _] []) _ _ _); k_dflt (refine' CG.use whole_c ?k1q9 ?k2q9 ?k3q9 ?k4q9 ?k5q9 ?k6q9 ?k7q9 ?k8q9 ?k9q9 ?_; walk_at "my use"; (case k7q9 => exact ⟨by k_mem, by assumption, by assumption, by assumption⟩)); intro D9 t9 u9 c9 h9 tk9 F9 N9 l9; (try k_lt l9); (try k_sweep); (try k_fold))
  trivial
theorem wof_c {a1 : Addr} {x e : Int} {tx te td : Tok} {c1 : Nat} : CG 79 2 [.ref a1, .int 64 td] (fun news => (a1, tupO [.int x tx, .int e te] c1) ∈ news ∧ 0 ≤ e ∧ e ≤ 10 ∧ -10 ^ 6 < x ∧ x < 10 ^ 6 ∧ -2 ^ 62 < x * 10 ^ e.toNat ∧ x * 10 ^ e.toNat < 2 ^ 62)
    (RI (x * 10 ^ e.toNat)) := by
  unfold CG
  k_fill
  intro w loose mean mg mb dp un gd cn cs a ccd cl outer A₀ base h₀ L m news s Q E Bl F X N T hk hpre hd' hu hret
  obtain ⟨hm1, h1, h2, h3, h4, h5, h6⟩ := hpre
  refine wpAny_call ?_
  k_dflt cell_enter
  k_steps
  all_goals first | (walk_at "my RI"; rfl) | w_report
theorem rows50 : True := by
  k_with "call ref" => (k_here; (with_reducible show wpAny _ _ (call (Value.ref 79) [Value.ref _, Value.int _ _] []) _ _ _); k_dflt (refine' CG.use wof_c ?k1q9 ?k2q9 ?k3q9 ?k4q9 ?k5q9 ?k6q9 ?k7q9 ?k8q9 ?k9q9 ?_; walk_at "my use"; (case k7q9 => exact ⟨by k_mem, by assumption, by assumption, by assumption, by assumption, by assumption, by assumption⟩)); intro t9 h9 tk9 F9 N9; (try k_sweep); (try k_fold))
  trivial
noncomputable section
def ln : List Int := [2, 3, 5, 6, 7, 8, 10, 11, 12, 13, 14, 15, 17, 18, 19, 20, 21, 22, 23, 24, 26, 27, 28, 29]
@[irreducible] def cn (k : Nat) : Int := ln.getD k 0
def lx : List Int := [2, 3, 5, 6, 7, 8, 1, 11, 12, 13, 14, 15, 17, 18, 19, 2, 21, 22, 23, 24, 26, 27, 28, 29]
@[irreducible] def cx (k : Nat) : Int := lx.getD k 0
def le : List Int := [0, 0, 0, 0, 0, 0, 1, 0, 0, 0, 0, 0, 0, 0, 0, 1, 0, 0, 0, 0, 0, 0, 0, 0]
@[irreducible] def ce (k : Nat) : Int := le.getD k 0
def lr : List Int := [141421356237309, 173205080756887, 223606797749978, 244948974278317, 264575131106459, 282842712474619, 316227766016837, 331662479035539, 346410161513775, 360555127546398, 374165738677394, 387298334620741, 412310562561766, 424264068711928, 435889894354067, 447213595499957, 458257569495584, 469041575982342, 479583152331271, 489897948556635, 509901951359278, 519615242270663, 529150262212918, 538516480713450]
@[irreducible] def cr (k : Nat) : Int := lr.getD k 0
def lrx : List Int := [141421356237, 173205080757, 22360679775, 244948974278, 264575131106, 282842712475, 316227766017, 331662479036, 346410161514, 360555127546, 374165738677, 387298334621, 412310562562, 424264068712, 435889894354, 4472135955, 458257569496, 469041575982, 479583152331, 489897948557, 509901951359, 519615242271, 529150262213, 538516480713]
@[irreducible] def crx (k : Nat) : Int := lrx.getD k 0
def lre : List Int := [-11, -11, -10, -11, -11, -11, -11, -11, -11, -11, -11, -11, -11, -11, -11, -9, -11, -11, -11, -11, -11, -11, -11, -11]
@[irreducible] def cre (k : Nat) : Int := lre.getD k 0
def lwx : List Int := [1, 1, 2, 2, 2, 2, 3, 3, 3, 3, 3, 3, 4, 4, 4, 4, 4, 4, 4, 4, 5, 5, 5, 5]
@[irreducible] def cwx (k : Nat) : Int := lwx.getD k 0
def lwe : List Int := [0, 0, 0, 0, 0, 0, 0, 0, 0, 0, 0, 0, 0, 0, 0, 0, 0, 0, 0, 0, 0, 0, 0, 0]
@[irreducible] def cwe (k : Nat) : Int := lwe.getD k 0
def lf : List Int := [1, 1, 2, 2, 2, 2, 3, 3, 3, 3, 3, 3, 4, 4, 4, 4, 4, 4, 4, 4, 5, 5, 5, 5]
@[irreducible] def cf (k : Nat) : Int := lf.getD k 0
def lsz : List Nat := [1, 2, 1, 2, 4, 2, 1, 2, 2, 5, 4, 2, 1, 2, 6, 2, 6, 6, 4, 2, 1, 2, 4, 5]
@[irreducible] def csz (k : Nat) : Nat := lsz.getD k 0
def lA : List (List Int) := [[0, 1, 1], [0, 1, 1, 1, 1], [0, 2, 2], [0, 2, 2, 2, 2], [0, 2, 1, 1, 2, 2, 1, 1, 2], [0, 2, 2, 2, 2], [0, 3, 3], [0, 3, 3, 3, 3], [0, 3, 3, 3, 3], [0, 3, 1, 2, 1, 3, 3, 1, 2, 1, 3], [0, 3, 2, 2, 3, 3, 2, 2, 3], [0, 3, 3, 3, 3], [0, 4, 4], [0, 4, 4, 4, 4], [0, 4, 2, 3, 3, 2, 4, 4, 2, 3, 3, 2, 4], [0, 4, 4, 4, 4], [0, 4, 1, 3, 3, 1, 4, 4, 1, 3, 3, 1, 4], [0, 4, 2, 4, 4, 2, 4, 4, 2, 4, 4, 2, 4], [0, 4, 3, 3, 4, 4, 3, 3, 4], [0, 4, 4, 4, 4], [0, 5, 5], [0, 5, 5, 5, 5], [0, 5, 4, 4, 5, 5, 4, 4, 5], [0, 5, 3, 2, 3, 5, 5, 3, 2, 3, 5]]
@[irreducible] def tA (k t : Nat) : Int := (lA.getD k []).getD t 0
def lB : List (List Int) := [[1, 1, 1], [1, 2, 1, 2, 1], [1, 1, 1], [1, 2, 1, 2, 1], [1, 3, 2, 3, 1, 3, 2, 3, 1], [1, 4, 1, 4, 1], [1, 1, 1], [1, 2, 1, 2, 1], [1, 3, 1, 3, 1], [1, 4, 3, 3, 4, 1, 4, 3, 3, 4, 1], [1, 5, 2, 5, 1, 5, 2, 5, 1], [1, 6, 1, 6, 1], [1, 1, 1], [1, 2, 1, 2, 1], [1, 3, 5, 2, 5, 3, 1, 3, 5, 2, 5, 3, 1], [1, 4, 1, 4, 1], [1, 5, 4, 3, 4, 5, 1, 5, 4, 3, 4, 5, 1], [1, 6, 3, 2, 3, 6, 1, 6, 3, 2, 3, 6, 1], [1, 7, 2, 7, 1, 7, 2, 7, 1], [1, 8, 1, 8, 1], [1, 1, 1], [1, 2, 1, 2, 1], [1, 3, 4, 3, 1, 3, 4, 3, 1], [1, 4, 5, 5, 4, 1, 4, 5, 5, 4, 1]]
@[irreducible] def tB (k t : Nat) : Int := (lB.getD k []).getD t 0
def lP : List (List Int) := [[1, 2, 2], [1, 1, 2, 1, 2], [2, 4, 4], [2, 2, 4, 2, 4], [2, 1, 1, 1, 4, 1, 1, 1, 4], [2, 1, 4, 1, 4], [3, 6, 6], [3, 3, 6, 3, 6], [3, 2, 6, 2, 6], [3, 1, 1, 1, 1, 6, 1, 1, 1, 1, 6], [3, 1, 2, 1, 6, 1, 2, 1, 6], [3, 1, 6, 1, 6], [4, 8, 8], [4, 4, 8, 4, 8], [4, 2, 1, 3, 1, 2, 8, 2, 1, 3, 1, 2, 8], [4, 2, 8, 2, 8], [4, 1, 1, 2, 1, 1, 8, 1, 1, 2, 1, 1, 8], [4, 1, 2, 4, 2, 1, 8, 1, 2, 4, 2, 1, 8], [4, 1, 3, 1, 8, 1, 3, 1, 8], [4, 1, 8, 1, 8], [5, 10, 10], [5, 5, 10, 5, 10], [5, 3, 2, 3, 10, 3, 2, 3, 10], [5, 2, 1, 1, 2, 10, 2, 1, 1, 2, 10]]
@[irreducible] def tP (k t : Nat) : Int := (lP.getD k []).getD t 0
def lHx : List (List Int) := [[1, 1, 3], [1, 1, 2, 5, 7], [1, 2, 9], [1, 2, 5, 22, 49], [1, 2, 3, 5, 8, 37, 45, 82, 127], [1, 2, 3, 14, 17], [1, 3, 19], [1, 3, 10, 63, 199], [1, 3, 7, 45, 97], [1, 3, 4, 7, 11, 18, 119, 137, 256, 393, 649], [1, 3, 4, 11, 15, 101, 116, 333, 449], [1, 3, 4, 27, 31], [1, 4, 33], [1, 4, 17, 140, 577], [1, 4, 9, 13, 48, 61, 170, 1421, 3012, 4433, 16311, 20744, 57799], [1, 4, 9, 76, 161], [1, 4, 5, 9, 23, 32, 55, 472, 527, 999, 2525, 3524, 6049], [1, 4, 5, 14, 61, 136, 197, 1712, 1909, 5530, 24029, 53588, 77617], [1, 4, 5, 19, 24, 211, 235, 916, 1151], [1, 4, 5, 44, 49], [1, 5, 51], [1, 5, 26, 265, 1351], [1, 5, 16, 37, 127, 1307, 4048, 9403, 32257], [1, 5, 11, 16, 27, 70, 727, 1524, 2251, 3775, 9801]]
@[irreducible] def tHx (k t : Nat) : Int := (lHx.getD k []).getD t 0
def lHy : List (List Int) := [[0, 1, 2], [0, 1, 1, 3, 4], [0, 1, 4], [0, 1, 2, 9, 20], [0, 1, 1, 2, 3, 14, 17, 31, 48], [0, 1, 1, 5, 6], [0, 1, 6], [0, 1, 3, 19, 60], [0, 1, 2, 13, 28], [0, 1, 1, 2, 3, 5, 33, 38, 71, 109, 180], [0, 1, 1, 3, 4, 27, 31, 89, 120], [0, 1, 1, 7, 8], [0, 1, 8], [0, 1, 4, 33, 136], [0, 1, 2, 3, 11, 14, 39, 326, 691, 1017, 3742, 4759, 13260], [0, 1, 2, 17, 36], [0, 1, 1, 2, 5, 7, 12, 103, 115, 218, 551, 769, 1320], [0, 1, 1, 3, 13, 29, 42, 365, 407, 1179, 5123, 11425, 16548], [0, 1, 1, 4, 5, 44, 49, 191, 240], [0, 1, 1, 9, 10], [0, 1, 10], [0, 1, 5, 51, 260], [0, 1, 3, 7, 24, 247, 765, 1777, 6096], [0, 1, 2, 3, 5, 13, 135, 283, 418, 701, 1820]]
@[irreducible] def tHy (k t : Nat) : Int := (lHy.getD k []).getD t 0
def lQx : List (List Int) := [[1, 15], [1, 2, 166666666667, 175], [2, 225], [2, 25, 244444444444, 245], [2, 3, 25, 266666666667, 264285714286, 264705882353, 264516129032, 264583333333], [2, 3, 28, 283333333333], [3, 316666666667], [3, 333333333333, 331578947368, 331666666667], [3, 35, 346153846154, 346428571429], [3, 4, 35, 366666666667, 36, 360606060606, 360526315789, 360563380282, 360550458716, 360555555556], [3, 4, 366666666667, 375, 374074074074, 374193548387, 374157303371, 374166666667], [3, 4, 385714285714, 3875], [4, 4125], [4, 425, 424242424242, 424264705882], [4, 45, 433333333333, 436363636364, 435714285714, 435897435897, 435889570552, 435890014472, 435889872173, 43588989845, 435889892835, 435889894419], [4, 45, 447058823529, 447222222222], [4, 5, 45, 46, 457142857143, 458333333333, 458252427184, 458260869565, 458256880734, 458257713249, 458257477243, 458257575758], [4, 5, 466666666667, 469230769231, 468965517241, 469047619048, 46904109589, 469041769042, 469041560645, 469041577201, 469041575492, 469041576021], [4, 5, 475, 48, 479545454545, 479591836735, 479581151832, 479583333333], [4, 5, 488888888889, 49], [5, 51], [5, 52, 519607843137, 519615384615], [5, 533333333333, 528571428571, 529166666667, 529149797571, 529150326797, 529150253236, 529150262467], [5, 55, 533333333333, 54, 538461538462, 538518518519, 53851590106, 538516746411, 538516405136, 538516483516]]
@[irreducible] def tQx (k t : Nat) : Int := (lQx.getD k []).getD t 0
def lQe : List (List Int) := [[0, -1], [0, 0, -11, -2], [0, -2], [0, -1, -11, -2], [0, 0, -1, -11, -11, -11, -11, -11], [0, 0, -1, -11], [0, -11], [0, -11, -11, -11], [0, -1, -11, -11], [0, 0, -1, -11, -1, -11, -11, -11, -11, -11], [0, 0, -11, -2, -11, -11, -11, -11], [0, 0, -11, -3], [0, -3], [0, -2, -11, -11], [0, -1, -11, -11, -11, -11, -11, -11, -11, -10, -11, -11], [0, -1, -11, -11], [0, 0, -1, -1, -11, -11, -11, -11, -11, -11, -11, -11], [0, 0, -11, -11, -11, -11, -10, -11, -11, -11, -11, -11], [0, 0, -2, -1, -11, -11, -11, -11], [0, 0, -11, -1], [0, -1], [0, -1, -11, -11], [0, -11, -11, -11, -11, -11, -11, -11], [0, -1, -11, -1, -11, -11, -10, -11, -11, -11]]
@[irreducible] def tQe (k t : Nat) : Int := (lQe.getD k []).getD t 0
def lNx : List (List Int) := [[41421356237, 8578643763], [73205080757, 26794919243, 653841409, 1794919243], [2360679775, 139320225], [44948974278, 5051025722, 504529834, 51025722], [64575131106, 35424868894, 14575131106, 2091535561, 28941682, 130751247, 59002074, 8202227], [82842712475, 17157287525, 2842712475, 490620858], [16227766017, 43890065], [31662479036, 1670854297, 83531668, 4187631], [46410161514, 3589838486, 25631536, 18409915], [60555127546, 39444872454, 10555127546, 6111539121, 555127546, 5093306, 28811757, 8252736, 466883, 42801], [74165738677, 25834261323, 749907201, 834261323, 91664603, 2780971, 8435306, 92799], [87298334621, 12701665379, 1584048907, 201665379], [12310562562, 189437438], [24264068712, 735931288, 2164447, 63717], [35889894354, 14110105646, 2556561021, 47374201, 17560864, 7541543, 323802, 120118, 22181, 4096, 1519, 65], [472135955, 27864045, 154771971, 8626722], [58257569496, 41742430504, 8257569496, 1742430504, 1114712353, 75763837, 5142312, 3300069, 688762, 143753, 92253, 6262], [69041575982, 30958424018, 2374909315, 189193249, 76058741, 6043066, 480092, 19306, 15337, 1219, 49, 39], [79583152331, 20416847669, 4583152331, 416847669, 37697786, 8684404, 2000499, 181002], [89897948557, 10102051443, 1009059668, 102051443], [9901951359, 98048641], [19615242271, 384757729, 7399134, 142344], [29150262213, 418307112, 578833642, 16404454, 464642, 64584, 8977, 254], [38516480713, 11483519287, 518314738, 1483519287, 54942251, 2037806, 579653, 265698, 75577, 2803]]
@[irreducible] def tNx (k t : Nat) : Int := (lNx.getD k []).getD t 0
def lNe : List (List Int) := [[-11, -11], [-11, -11, -10, -11], [-10, -10], [-11, -11, -11, -11], [-11, -11, -11, -11, -10, -11, -11, -11], [-11, -11, -11, -11], [-11, -10], [-11, -11, -11, -11], [-11, -11, -10, -11], [-11, -11, -11, -11, -11, -10, -11, -11, -10, -10], [-11, -11, -10, -11, -11, -10, -11, -10], [-11, -11, -11, -11], [-11, -11], [-11, -11, -10, -10], [-11, -11, -11, -10, -10, -11, -11, -11, -11, -11, -11, -11], [-9, -9, -11, -11], [-11, -11, -11, -11, -11, -11, -11, -11, -11, -11, -11, -11], [-11, -11, -11, -11, -11, -11, -11, -10, -11, -11, -10, -11], [-11, -11, -11, -11, -11, -11, -11, -11], [-11, -11, -11, -11], [-11, -11], [-11, -11, -11, -11], [-11, -10, -11, -11, -11, -11, -11, -11], [-11, -11, -10, -11, -11, -11, -11, -11, -11, -11]]
@[irreducible] def tNe (k t : Nat) : Int := (lNe.getD k []).getD t 0
def lT : List (List Int) := [[-1, 1], [-2, 1, -2, 1], [-1, 1], [-2, 1, -2, 1], [-3, 2, -3, 1, -3, 2, -3, 1], [-4, 1, -4, 1], [-1, 1], [-2, 1, -2, 1], [-3, 1, -3, 1], [-4, 3, -3, 4, -1, 4, -3, 3, -4, 1], [-5, 2, -5, 1, -5, 2, -5, 1], [-6, 1, -6, 1], [-1, 1], [-2, 1, -2, 1], [-3, 5, -2, 5, -3, 1, -3, 5, -2, 5, -3, 1], [-4, 1, -4, 1], [-5, 4, -3, 4, -5, 1, -5, 4, -3, 4, -5, 1], [-6, 3, -2, 3, -6, 1, -6, 3, -2, 3, -6, 1], [-7, 2, -7, 1, -7, 2, -7, 1], [-8, 1, -8, 1], [-1, 1], [-2, 1, -2, 1], [-3, 4, -3, 1, -3, 4, -3, 1], [-4, 5, -5, 4, -1, 4, -5, 5, -4, 1]]
@[irreducible] def tT (k t : Nat) : Int := (lT.getD k []).getD t 0

def rtP (k : Nat) : Int := if ce k = 0 then 2 * 12 + 4 else 2 * 12 + 4 + 1
def rtS (k : Nat) : Int := cx k * 10 ^ (rtP k).toNat
def PreB (k : Nat) : Prop :=
  (2 ≤ cn k ∧ cn k < 30) ∧ (-10 ^ 40 < cn k ∧ cn k < 10 ^ 40 ∧ (-90 : Int) ≤ 0 ∧ (0 : Int) ≤ 30) ∧ ((madeF (cn k) 0).1 = cx k ∧ (madeF (cn k) 0).2 = ce k) ∧
  ((ce k = 0 ∧ rtP k = 2 * 12 + 4) ∨ (ce k = 1 ∧ rtP k = 2 * 12 + 4 + 1)) ∧ (0 < cx k ∧ cx k < 100 ∧ 2 ≤ rtS k ∧ rtS k < 10 ^ 40) ∧ rootOf (rtS k) = some (cr k) ∧ (0 ≤ cr k ∧ cr k < 10 ^ 17) ∧
  (-10 ^ 40 < drW (rtS k) (cr k) ∧ drW (rtS k) (cr k) < 10 ^ 40 ∧ -90 ≤ drE (ce k) (rtP k) (rtS k) (cr k) ∧ drE (ce k) (rtP k) (rtS k) (cr k) ≤ 30) ∧
  (madeF (drW (rtS k) (cr k)) (drE (ce k) (rtP k) (rtS k) (cr k))).1 = crx k ∧ (madeF (drW (rtS k) (cr k)) (drE (ce k) (rtP k) (rtS k) (cr k))).2 = cre k ∧
  cre k < 0 ∧ (-10 ^ 14 < crx k ∧ crx k < 10 ^ 14 ∧ -40 ≤ cre k ∧ cre k ≤ 20) ∧
  (-10 ^ 40 < Int.fdiv (crx k) (10 ^ (0 - cre k).toNat) ∧ Int.fdiv (crx k) (10 ^ (0 - cre k).toNat) < 10 ^ 40 ∧ (-90 : Int) ≤ 0 ∧ (0 : Int) ≤ 30) ∧
  (madeF (Int.fdiv (crx k) (10 ^ (0 - cre k).toNat)) 0).1 = cwx k ∧ (madeF (Int.fdiv (crx k) (10 ^ (0 - cre k).toNat)) 0).2 = cwe k ∧
  (0 ≤ cwe k ∧ cwe k ≤ 10 ∧ -10 ^ 6 < cwx k ∧ cwx k < 10 ^ 6 ∧ -2 ^ 62 < cwx k * 10 ^ (cwe k).toNat ∧ cwx k * 10 ^ (cwe k).toNat < 2 ^ 62) ∧ cwx k * 10 ^ (cwe k).toNat = cf k ∧
  tA k 0 = 0 ∧ tB k 0 = 1 ∧ tP k 0 = cf k ∧ tHx k 0 = 1 ∧ tHy k 0 = 0 ∧ tHx k 1 = cf k ∧ tHy k 1 = 1 ∧ 1 ≤ csz k ∧ csz k ≤ 6 ∧ 0 < cf k ∧ cf k < 10
set_option synthInstance.maxHeartbeats 2000000 in
set_option synthInstance.maxSize 100000 in
theorem preB_all : ∀ k, k < 24 → PreB k := by unfold PreB; decide +kernel
structure PreF (k : Nat) : Prop where
  n1 : 2 ≤ cn k
  n2 : cn k < 30
  md : MadeOk (cn k) 0
  d1 : (madeF (cn k) 0).1 = cx k
  d2 : (madeF (cn k) 0).2 = ce k
  P : (ce k = 0 ∧ rtP k = 2 * 12 + 4) ∨ (ce k = 1 ∧ rtP k = 2 * 12 + 4 + 1)
  x1 : 0 < cx k
  x2 : cx k < 100
  s1 : 2 ≤ cx k * 10 ^ (rtP k).toNat
  s2 : cx k * 10 ^ (rtP k).toNat < 10 ^ 40
  r : rootOf (cx k * 10 ^ (rtP k).toNat) = some (cr k)
  r1 : 0 ≤ cr k
  r2 : cr k < 10 ^ 17
  mr : MadeOk (drW (cx k * 10 ^ (rtP k).toNat) (cr k)) (drE (ce k) (rtP k) (cx k * 10 ^ (rtP k).toNat) (cr k))
  w1 : (madeF (drW (cx k * 10 ^ (rtP k).toNat) (cr k)) (drE (ce k) (rtP k) (cx k * 10 ^ (rtP k).toNat) (cr k))).1 = crx k
  w2 : (madeF (drW (cx k * 10 ^ (rtP k).toNat) (cr k)) (drE (ce k) (rtP k) (cx k * 10 ^ (rtP k).toNat) (cr k))).2 = cre k
  e0 : cre k < 0
  dr : DecOk (crx k) (cre k)
  mw : MadeOk (Int.fdiv (crx k) (10 ^ (0 - cre k).toNat)) 0
  v1 : (madeF (Int.fdiv (crx k) (10 ^ (0 - cre k).toNat)) 0).1 = cwx k
  v2 : (madeF (Int.fdiv (crx k) (10 ^ (0 - cre k).toNat)) 0).2 = cwe k
  u1 : 0 ≤ cwe k
  u2 : cwe k ≤ 10
  u3 : -10 ^ 6 < cwx k
  u4 : cwx k < 10 ^ 6
  u5 : -2 ^ 62 < cwx k * 10 ^ (cwe k).toNat
  u6 : cwx k * 10 ^ (cwe k).toNat < 2 ^ 62
  f : cwx k * 10 ^ (cwe k).toNat = cf k
  a0 : tA k 0 = 0
  b0 : tB k 0 = 1
  p0 : tP k 0 = cf k
  h0 : tHx k 0 = 1
  h1 : tHy k 0 = 0
  h2 : tHx k 1 = cf k
  h3 : tHy k 1 = 1
  z1 : 1 ≤ csz k
  z2 : csz k ≤ 6
  f1 : 0 < cf k
  f2 : cf k < 10
theorem preF {k : Nat} (hk : k < 24) : PreF k := by
  obtain ⟨⟨h1, h2⟩, h3, ⟨h4, h5⟩, h6, ⟨h7, h8, h9, h10⟩, h11, ⟨h12, h13⟩, h14, h15, h16, h17, h18, h19, h20, h21, ⟨h22, h23, h24, h25, h26, h27⟩, h28, h29, h30, h31, h32, h33, h34, h35, h36, h37, h38, h39⟩ := preB_all k hk
  exact ⟨h1, h2, h3, h4, h5, h6, h7, h8, h9, h10, h11, h12, h13, h14, h15, h16, h17, h18, h19, h20, h21, h22, h23, h24, h25, h26, h27, h28, h29, h30, h31, h32, h33, h34, h35, h36, h37, h38, h39⟩
def TurnB (k t : Nat) : Prop :=
  (-2 ^ 40 < tA k t ∧ tA k t < 2 ^ 40 ∧ 0 < tB k t ∧ tB k t < 2 ^ 40 ∧ -2 ^ 80 < tB k t * tP k t ∧ tB k t * tP k t < 2 ^ 80 ∧ -2 ^ 40 < tB k t * tP k t - tA k t ∧ tB k t * tP k t - tA k t < 2 ^ 40 ∧
    0 ≤ cn k - (tB k t * tP k t - tA k t) * (tB k t * tP k t - tA k t) ∧ cn k - (tB k t * tP k t - tA k t) * (tB k t * tP k t - tA k t) < 2 ^ 40 ∧
    0 < Int.fdiv (cn k - (tB k t * tP k t - tA k t) * (tB k t * tP k t - tA k t)) (tB k t) ∧ Int.fdiv (cn k - (tB k t * tP k t - tA k t) * (tB k t * tP k t - tA k t)) (tB k t) < 2 ^ 40 ∧
    0 ≤ cf k + (tB k t * tP k t - tA k t) ∧ cf k + (tB k t * tP k t - tA k t) < 2 ^ 40) ∧
  (nxA (tA k t) (tB k t) (tP k t) = tA k (t + 1) ∧ nxB (cn k) (tA k t) (tB k t) (tP k t) = tB k (t + 1) ∧ nxP (cn k) (cf k) (tA k t) (tB k t) (tP k t) = tP k (t + 1)) ∧
  (1 ≤ tB k (t + 1) ∧ tB k (t + 1) < 2 ^ 40 ∧ 0 ≤ tP k (t + 1) ∧ tP k (t + 1) < 2 ^ 10) ∧
  (-2 ^ 46 < tHx k (t + 1) ∧ tHx k (t + 1) < 2 ^ 46 ∧ -2 ^ 40 < tHy k (t + 1) ∧ tHy k (t + 1) < 2 ^ 40 ∧ 0 < cn k ∧ cn k < 2 ^ 10) ∧
  (tHx k (t + 1) * tHx k (t + 1) - cn k * (tHy k (t + 1) * tHy k (t + 1)) = tT k t ∧ tT k t = if Int.fmod (t : Int) 2 = 1 then tB k (t + 1) else 0 - tB k (t + 1)) ∧
  (-10 ^ 40 < tHx k (t + 1) ∧ tHx k (t + 1) < 10 ^ 40 ∧ (-90 : Int) ≤ 0 ∧ (0 : Int) ≤ 30) ∧ (-10 ^ 40 < tHy k (t + 1) ∧ tHy k (t + 1) < 10 ^ 40 ∧ (-90 : Int) ≤ 0 ∧ (0 : Int) ≤ 30) ∧
  (-10 ^ 14 < (madeF (tHx k (t + 1)) 0).1 ∧ (madeF (tHx k (t + 1)) 0).1 < 10 ^ 14 ∧ -40 ≤ (madeF (tHx k (t + 1)) 0).2 ∧ (madeF (tHx k (t + 1)) 0).2 ≤ 20) ∧
  (-10 ^ 14 < (madeF (tHy k (t + 1)) 0).1 ∧ (madeF (tHy k (t + 1)) 0).1 < 10 ^ 14 ∧ -40 ≤ (madeF (tHy k (t + 1)) 0).2 ∧ (madeF (tHy k (t + 1)) 0).2 ≤ 20) ∧
  0 ≤ (madeF (tHx k (t + 1)) 0).1 ∧ 0 < (madeF (tHy k (t + 1)) 0).1 ∧
  (-10 ^ 40 < dvW (madeF (tHx k (t + 1)) 0).1 (madeF (tHy k (t + 1)) 0).1 ∧ dvW (madeF (tHx k (t + 1)) 0).1 (madeF (tHy k (t + 1)) 0).1 < 10 ^ 40 ∧
    -90 ≤ dvE (madeF (tHx k (t + 1)) 0).1 (madeF (tHx k (t + 1)) 0).2 (madeF (tHy k (t + 1)) 0).1 (madeF (tHy k (t + 1)) 0).2 ∧ dvE (madeF (tHx k (t + 1)) 0).1 (madeF (tHx k (t + 1)) 0).2 (madeF (tHy k (t + 1)) 0).1 (madeF (tHy k (t + 1)) 0).2 ≤ 30) ∧
  ((divF (madeF (tHx k (t + 1)) 0).1 (madeF (tHx k (t + 1)) 0).2 (madeF (tHy k (t + 1)) 0).1 (madeF (tHy k (t + 1)) 0).2).1 = tQx k t ∧ (divF (madeF (tHx k (t + 1)) 0).1 (madeF (tHx k (t + 1)) 0).2 (madeF (tHy k (t + 1)) 0).1 (madeF (tHy k (t + 1)) 0).2).2 = tQe k t) ∧
  (-10 ^ 14 < tQx k t ∧ tQx k t < 10 ^ 14 ∧ -40 ≤ tQe k t ∧ tQe k t ≤ 20) ∧
  (cmpF (tQx k t) (tQe k t) (crx k) (cre k) = if Int.fmod (t : Int) 2 = 1 then 1 else 0 - 1) ∧
  (-10 ^ 40 < al1 (tQx k t) (tQe k t) (cre k) + al2 (0 - crx k) (tQe k t) (cre k) ∧ al1 (tQx k t) (tQe k t) (cre k) + al2 (0 - crx k) (tQe k t) (cre k) < 10 ^ 40 ∧ -90 ≤ imin (tQe k t) (cre k) ∧ imin (tQe k t) (cre k) ≤ 30) ∧
  (iabs (subF (tQx k t) (tQe k t) (crx k) (cre k)).1 = tNx k t ∧ (subF (tQx k t) (tQe k t) (crx k) (cre k)).2 = tNe k t) ∧
  (-10 ^ 14 < tNx k t ∧ tNx k t < 10 ^ 14 ∧ -40 ≤ tNe k t ∧ tNe k t ≤ 20) ∧
  (0 < t → (-10 ^ 14 < tNx k (t - 1) ∧ tNx k (t - 1) < 10 ^ 14 ∧ -40 ≤ tNe k (t - 1) ∧ tNe k (t - 1) ≤ 20) ∧ cmpF (tNx k t) (tNe k t) (tNx k (t - 1)) (tNe k (t - 1)) < 0) ∧
  (t < csz k → (tP k (t + 1) = 2 * cf k ↔ t + 1 = csz k)) ∧
  (0 ≤ tHx k t ∧ tHx k t < 2 ^ 20 ∧ 0 ≤ tHy k t ∧ tHy k t < 2 ^ 20 ∧ 0 ≤ tHx k (t + 1) ∧ tHx k (t + 1) < 2 ^ 20 ∧ 0 ≤ tHy k (t + 1) ∧ tHy k (t + 1) < 2 ^ 20 ∧
    0 ≤ tP k (t + 1) * tHx k (t + 1) ∧ tP k (t + 1) * tHx k (t + 1) < 2 ^ 40 ∧ 0 ≤ tP k (t + 1) * tHy k (t + 1) ∧ tP k (t + 1) * tHy k (t + 1) < 2 ^ 40) ∧
  (t + 1 < 2 * csz k → tP k (t + 1) * tHx k (t + 1) + tHx k t = tHx k (t + 2) ∧ tP k (t + 1) * tHy k (t + 1) + tHy k t = tHy k (t + 2))
set_option synthInstance.maxHeartbeats 2000000 in
set_option synthInstance.maxSize 100000 in
theorem turnB_all : ∀ k, k < 24 → ∀ t, t < 12 → t < 2 * csz k → TurnB k t := by unfold TurnB; decide +kernel
structure TurnF (k t : Nat) : Prop where
  nx : NextOk (cn k) (cf k) (tA k t) (tB k t) (tP k t)
  a : nxA (tA k t) (tB k t) (tP k t) = tA k (t + 1)
  b : nxB (cn k) (tA k t) (tB k t) (tP k t) = tB k (t + 1)
  p : nxP (cn k) (cf k) (tA k t) (tB k t) (tP k t) = tP k (t + 1)
  b1 : 1 ≤ tB k (t + 1)
  b2 : tB k (t + 1) < 2 ^ 40
  p1 : 0 ≤ tP k (t + 1)
  p2 : tP k (t + 1) < 2 ^ 10
  x1 : -2 ^ 46 < tHx k (t + 1)
  x2 : tHx k (t + 1) < 2 ^ 46
  y1 : -2 ^ 40 < tHy k (t + 1)
  y2 : tHy k (t + 1) < 2 ^ 40
  n1 : 0 < cn k
  n2 : cn k < 2 ^ 10
  to : tHx k (t + 1) * tHx k (t + 1) - cn k * (tHy k (t + 1) * tHy k (t + 1)) = tT k t
  tv1 : Int.fmod (t : Int) 2 = 1 → tT k t = tB k (t + 1)
  tv2 : ¬ Int.fmod (t : Int) 2 = 1 → tT k t = 0 - tB k (t + 1)
  mx : MadeOk (tHx k (t + 1)) 0
  my : MadeOk (tHy k (t + 1)) 0
  dx : DecOk (madeF (tHx k (t + 1)) 0).1 (madeF (tHx k (t + 1)) 0).2
  dy : DecOk (madeF (tHy k (t + 1)) 0).1 (madeF (tHy k (t + 1)) 0).2
  qx : 0 ≤ (madeF (tHx k (t + 1)) 0).1
  qy : 0 < (madeF (tHy k (t + 1)) 0).1
  mq : MadeOk (dvW (madeF (tHx k (t + 1)) 0).1 (madeF (tHy k (t + 1)) 0).1) (dvE (madeF (tHx k (t + 1)) 0).1 (madeF (tHx k (t + 1)) 0).2 (madeF (tHy k (t + 1)) 0).1 (madeF (tHy k (t + 1)) 0).2)
  q1 : (divF (madeF (tHx k (t + 1)) 0).1 (madeF (tHx k (t + 1)) 0).2 (madeF (tHy k (t + 1)) 0).1 (madeF (tHy k (t + 1)) 0).2).1 = tQx k t
  q2 : (divF (madeF (tHx k (t + 1)) 0).1 (madeF (tHx k (t + 1)) 0).2 (madeF (tHy k (t + 1)) 0).1 (madeF (tHy k (t + 1)) 0).2).2 = tQe k t
  dq : DecOk (tQx k t) (tQe k t)
  cq1 : Int.fmod (t : Int) 2 = 1 → cmpF (tQx k t) (tQe k t) (crx k) (cre k) = 1
  cq2 : ¬ Int.fmod (t : Int) 2 = 1 → cmpF (tQx k t) (tQe k t) (crx k) (cre k) = 0 - 1
  ms : MadeOk (al1 (tQx k t) (tQe k t) (cre k) + al2 (0 - crx k) (tQe k t) (cre k)) (imin (tQe k t) (cre k))
  s1 : iabs (subF (tQx k t) (tQe k t) (crx k) (cre k)).1 = tNx k t
  s2 : (subF (tQx k t) (tQe k t) (crx k) (cre k)).2 = tNe k t
  dn : DecOk (tNx k t) (tNe k t)
  ne : 0 < t → DecOk (tNx k (t - 1)) (tNe k (t - 1)) ∧ cmpF (tNx k t) (tNe k t) (tNx k (t - 1)) (tNe k (t - 1)) < 0
  sz : t < csz k → (tP k (t + 1) = 2 * cf k ↔ t + 1 = csz k)
  g1 : 0 ≤ tHx k t
  g2 : tHx k t < 2 ^ 20
  g3 : 0 ≤ tHy k t
  g4 : tHy k t < 2 ^ 20
  g5 : 0 ≤ tHx k (t + 1)
  g6 : tHx k (t + 1) < 2 ^ 20
  g7 : 0 ≤ tHy k (t + 1)
  g8 : tHy k (t + 1) < 2 ^ 20
  g9 : 0 ≤ tP k (t + 1) * tHx k (t + 1)
  g10 : tP k (t + 1) * tHx k (t + 1) < 2 ^ 40
  g11 : 0 ≤ tP k (t + 1) * tHy k (t + 1)
  g12 : tP k (t + 1) * tHy k (t + 1) < 2 ^ 40
  fr : t + 1 < 2 * csz k → tP k (t + 1) * tHx k (t + 1) + tHx k t = tHx k (t + 2) ∧ tP k (t + 1) * tHy k (t + 1) + tHy k t = tHy k (t + 2)
theorem turnF {k t : Nat} (hk : k < 24) (h1 : t < 12) (h2 : t < 2 * csz k) : TurnF k t := by
  obtain ⟨a1, ⟨a2, a3, a4⟩, ⟨a5, a6, a7, a8⟩, ⟨a9, a10, a11, a12, a13, a14⟩, ⟨a15, a16⟩, a17, a18, a19, a20, a21, a22, a23, ⟨a24, a25⟩, a26, a27, a28, ⟨a29, a30⟩, a31, a32, a33, ⟨b1, b2, b3, b4, b5, b6, b7, b8, b9, b10, b11, b12⟩, b13⟩ := turnB_all k hk t h1 h2
  exact ⟨a1, a2, a3, a4, a5, a6, a7, a8, a9, a10, a11, a12, a13, a14, a15, fun h => by rw [a16, if_pos h], fun h => by rw [a16, if_neg h], a17, a18, a19, a20, a21, a22, a23, a24, a25, a26, fun h => by rw [a27, if_pos h], fun h => by rw [a27, if_neg h], a28, a29, a30, a31, a32, a33, b1, b2, b3, b4, b5, b6, b7, b8, b9, b10, b11, b12, b13⟩

end
theorem newTuple_E {M : Model} {A : Around} {E : Value → Shared → Prop} {s : Shared} {h₀ g : Heap} {L : Addr} {m : Names} {news : Ledger} {vs : List Value} {Q : Value → Shared → Prop} (K : InElt g s.heap) (F : Fr h₀ L s.heap m) (N : News h₀ L s.heap news)
    (h : ∀ D h', Fr h₀ L h' m → News h₀ L h' ((D, tupO vs 0) :: news) → (∀ p ∈ news, p.1 < D) → InElt g h' → Q (.ref D) { s with heap := h' }) (hz : vs.length ≤ sizeLine) : wpAny M A (newTuple vs) Q E s :=
  wpAny_newObj_type (h _ _ (F.push _) (N.push F _) (fun p hp => Heap.lt_size (N p hp).1) (fun b o e => Heap.get?_push_of_some _ (K b o e))) (by show vs.toArray.size ≤ sizeLine; rw [List.size_toArray]; exact hz)
theorem rows53 : True := by
  k_with "compareOp NotIn int ref" => (k_here; (with_reducible show wpAny _ _ (compareOp CmpOp.NotIn (Value.int _ _) (Value.ref _)) _ _ _); k_dflt (refine' notin_tuple_ints (News.isTup ?k1q9 ?k2q9) ?k3q9 ?_; (case k1q9 => k_asm); (case k2q9 => k_mem); (case k3q9 => repeat constructor)))
  k_with "newTuple" => (k_here; (with_reducible rename InElt _ _ => kE9); k_dflt (refine' newTuple_E kE9 ?Fq9 ?Nq9 ?_ ?zq9; (case Fq9 => k_asm); (case Nq9 => k_asm); (case zq9 => kmk_size)); intro D9 h9 F9 N9 l9 kE8; (try k_lt l9))
  trivial
theorem CG.eqI {f : Addr} {d : Nat} {vs : List Value} {pre : Ledger → Prop} {x p : Int} (C : CG f d vs pre (RI x)) : CG f d vs (fun news => pre news ∧ x = p) (RI p) := by
  intro w loose mean mg mb dp un gd cn cs a ccd cl outer A₀ base h₀ L m news s Q E Bl F X N T hk hpre hd' hu hret
  obtain ⟨h, rfl⟩ := hpre
  exact C w loose mean mg mb dp un gd cn cs a ccd cl outer A₀ base h₀ L m news s Q E Bl F X N T hk h hd' hu hret
theorem CG.eq2 {f : Addr} {d : Nat} {vs : List Value} {pre : Ledger → Prop} {x y p q : Int} (C : CG f d vs pre (RT2 x y)) : CG f d vs (fun news => pre news ∧ x = p ∧ y = q) (RT2 p q) := by
  intro w loose mean mg mb dp un gd cn cs a ccd cl outer A₀ base h₀ L m news s Q E Bl F X N T hk hpre hd' hu hret
  obtain ⟨h, rfl, rfl⟩ := hpre
  exact C w loose mean mg mb dp un gd cn cs a ccd cl outer A₀ base h₀ L m news s Q E Bl F X N T hk h hd' hu hret
theorem CG.eq3 {f : Addr} {d : Nat} {vs : List Value} {pre : Ledger → Prop} {x y z p q r : Int} (C : CG f d vs pre (RT3 x y z)) : CG f d vs (fun news => pre news ∧ x = p ∧ y = q ∧ z = r) (RT3 p q r) := by
  intro w loose mean mg mb dp un gd cn cs a ccd cl outer A₀ base h₀ L m news s Q E Bl F X N T hk hpre hd' hu hret
  obtain ⟨h, rfl, rfl, rfl⟩ := hpre
  exact C w loose mean mg mb dp un gd cn cs a ccd cl outer A₀ base h₀ L m news s Q E Bl F X N T hk h hd' hu hret
theorem rows55 : True := by
  k_with "call ref" => (k_here; (with_reducible show wpAny _ _ (call (Value.ref 86) [Value.int _ _, Value.int _ _] []) _ _ _); k_dflt (refine' CG.use (dec_c _ _ _) ?k1q9 ?k2q9 ?k3q9 ?k4q9 ?k5q9 ?k6q9 ?k7q9 ?k8q9 ?k9q9 ?_; walk_at "my use"; (case k7q9 => first | exact TurnF.mx (by with_reducible assumption) | exact TurnF.my (by with_reducible assumption))); intro D9 t9 u9 c9 h9 tk9 F9 N9 l9; (try k_lt l9); (try k_sweep); (try k_fold))
  k_with "call ref" => (k_here; (with_reducible show wpAny _ _ (call (Value.ref 86) [Value.int _ _, Value.int _ _] []) _ _ _); k_dflt (refine' CG.use (CG.eq2 (dec_c _ _ _)) ?k1q9 ?k2q9 ?k3q9 ?k4q9 ?k5q9 ?k6q9 ?k7q9 ?k8q9 ?k9q9 ?_; walk_at "my use"; (case k7q9 => exact ⟨PreF.md (by with_reducible assumption), PreF.d1 (by with_reducible assumption), PreF.d2 (by with_reducible assumption)⟩)); intro D9 t9 u9 c9 h9 tk9 F9 N9 l9; (try k_lt l9); (try k_sweep); (try k_fold))
  k_with "call ref" => (k_here; (with_reducible show wpAny _ _ (call (Value.ref 192) [Value.ref _, Value.int _ _] []) _ _ _); k_dflt (refine' CG.use (CG.eq2 droot_c) ?k1q9 ?k2q9 ?k3q9 ?k4q9 ?k5q9 ?k6q9 ?k7q9 ?k8q9 ?k9q9 ?_; walk_at "my use"; (case k7q9 => exact ⟨⟨by k_mem, PreF.P (by with_reducible assumption), PreF.x1 (by with_reducible assumption), PreF.x2 (by with_reducible assumption), PreF.s1 (by with_reducible assumption), PreF.s2 (by with_reducible assumption), PreF.r (by with_reducible assumption), PreF.r1 (by with_reducible assumption), PreF.r2 (by with_reducible assumption), PreF.mr (by with_reducible assumption)⟩, PreF.w1 (by with_reducible assumption), PreF.w2 (by with_reducible assumption)⟩)); intro D9 t9 u9 c9 h9 tk9 F9 N9 l9; (try k_lt l9); (try k_sweep); (try k_fold))
  k_with "call ref" => (k_here; (with_reducible show wpAny _ _ (call (Value.ref 178) [Value.ref _, Value.int _ _] []) _ _ _); k_dflt (refine' CG.use (CG.eq2 whole_c) ?k1q9 ?k2q9 ?k3q9 ?k4q9 ?k5q9 ?k6q9 ?k7q9 ?k8q9 ?k9q9 ?_; walk_at "my use"; (case k7q9 => exact ⟨⟨by k_mem, PreF.e0 (by with_reducible assumption), PreF.dr (by with_reducible assumption), PreF.mw (by with_reducible assumption)⟩, PreF.v1 (by with_reducible assumption), PreF.v2 (by with_reducible assumption)⟩)); intro D9 t9 u9 c9 h9 tk9 F9 N9 l9; (try k_lt l9); (try k_sweep); (try k_fold))
  k_with "call ref" => (k_here; (with_reducible show wpAny _ _ (call (Value.ref 79) [Value.ref _, Value.int _ _] []) _ _ _); k_dflt (refine' CG.use (CG.eqI wof_c) ?k1q9 ?k2q9 ?k3q9 ?k4q9 ?k5q9 ?k6q9 ?k7q9 ?k8q9 ?k9q9 ?_; walk_at "my use"; (case k7q9 => exact ⟨⟨by k_mem, PreF.u1 (by with_reducible assumption), PreF.u2 (by with_reducible assumption), PreF.u3 (by with_reducible assumption), PreF.u4 (by with_reducible assumption), PreF.u5 (by with_reducible assumption), PreF.u6 (by with_reducible assumption)⟩, PreF.f (by with_reducible assumption)⟩)); intro t9 h9 tk9 F9 N9; (try k_sweep); (try k_fold))
  k_with "call ref" => (k_here; (with_reducible show wpAny _ _ (call (Value.ref 276) [Value.int _ _, Value.int _ _, Value.ref _] []) _ _ _); k_dflt (refine' CG.use (CG.eq3 next_c) ?k1q9 ?k2q9 ?k3q9 ?k4q9 ?k5q9 ?k6q9 ?k7q9 ?k8q9 ?k9q9 ?_; walk_at "my use"; (case k7q9 => exact ⟨⟨by k_mem, TurnF.nx (by with_reducible assumption)⟩, TurnF.a (by with_reducible assumption), TurnF.b (by with_reducible assumption), TurnF.p (by with_reducible assumption)⟩)); intro D9 t9 u9 v9 c9 h9 tk9 F9 N9 l9; (try k_lt l9); (try k_sweep); (try k_fold))
  k_with "call ref" => (k_here; (with_reducible show wpAny _ _ (call (Value.ref 283) [Value.int _ _, Value.int _ _, Value.int _ _] []) _ _ _); k_dflt (refine' CG.use (CG.eqI (told_c _ _ _ _ _ _)) ?k1q9 ?k2q9 ?k3q9 ?k4q9 ?k5q9 ?k6q9 ?k7q9 ?k8q9 ?k9q9 ?_; walk_at "my use"; (case k7q9 => exact ⟨⟨TurnF.x1 (by with_reducible assumption), TurnF.x2 (by with_reducible assumption), TurnF.y1 (by with_reducible assumption), TurnF.y2 (by with_reducible assumption), TurnF.n1 (by with_reducible assumption), TurnF.n2 (by with_reducible assumption)⟩, TurnF.to (by with_reducible assumption)⟩)); intro t9 h9 tk9 F9 N9; (try k_sweep); (try k_fold))
  k_with "call ref" => (k_here; (with_reducible show wpAny _ _ (call (Value.ref 143) [Value.ref _, Value.ref _, Value.int _ _] []) _ _ _); k_dflt (refine' CG.use (CG.eq2 div_c) ?k1q9 ?k2q9 ?k3q9 ?k4q9 ?k5q9 ?k6q9 ?k7q9 ?k8q9 ?k9q9 ?_; walk_at "my use"; (case k7q9 => exact ⟨⟨by k_mem, by k_mem, TurnF.dx (by with_reducible assumption), TurnF.dy (by with_reducible assumption), TurnF.qx (by with_reducible assumption), TurnF.qy (by with_reducible assumption), TurnF.mq (by with_reducible assumption)⟩, TurnF.q1 (by with_reducible assumption), TurnF.q2 (by with_reducible assumption)⟩)); intro D9 t9 u9 c9 h9 tk9 F9 N9 l9; (try k_lt l9); (try k_sweep); (try k_fold))
  k_with "call ref" => (k_here; (with_reducible show wpAny _ _ (call (Value.ref 122) [Value.ref _, Value.ref _, Value.int _ _] []) _ _ _); k_dflt (refine' CG.use (sub_c) ?k1q9 ?k2q9 ?k3q9 ?k4q9 ?k5q9 ?k6q9 ?k7q9 ?k8q9 ?k9q9 ?_; walk_at "my use"; (case k7q9 => exact ⟨by k_mem, by k_mem, TurnF.dq (by with_reducible assumption), PreF.dr (by with_reducible assumption), TurnF.ms (by with_reducible assumption)⟩)); intro D9 t9 u9 c9 h9 tk9 F9 N9 l9; (try k_lt l9); (try k_sweep); (try k_fold))
  k_with "call ref" => (k_here; (with_reducible show wpAny _ _ (call (Value.ref 101) [Value.ref _] []) _ _ _); k_dflt (refine' CG.use (CG.eq2 size_c) ?k1q9 ?k2q9 ?k3q9 ?k4q9 ?k5q9 ?k6q9 ?k7q9 ?k8q9 ?k9q9 ?_; walk_at "my use"; (case k7q9 => exact ⟨by k_mem, TurnF.s1 (by with_reducible assumption), TurnF.s2 (by with_reducible assumption)⟩)); intro D9 t9 u9 c9 h9 tk9 F9 N9 l9; (try k_lt l9); (try k_sweep); (try k_fold))
  k_with "call ref" => (k_here; (with_reducible show wpAny _ _ (call (Value.ref 150) [Value.ref _, Value.ref _] []) _ _ _); k_dflt (refine' CG.use (cmp_c) ?k1q9 ?k2q9 ?k3q9 ?k4q9 ?k5q9 ?k6q9 ?k7q9 ?k8q9 ?k9q9 ?_; walk_at "my use"; (case k7q9 => first | exact ⟨by k_mem, by k_mem, TurnF.dq (by with_reducible assumption), PreF.dr (by with_reducible assumption)⟩ | exact ⟨by k_mem, by k_mem, TurnF.dn (by with_reducible assumption), (TurnF.ne (by with_reducible assumption) (by with_reducible assumption)).1⟩)); intro t9 h9 tk9 F9 N9; (try k_sweep); (try k_fold))
  trivial
structure WhichMark : Prop where
def WQ (b : Int) (h₀ : Heap) (L : Addr) (m : Names) (news : Ledger) (s : Shared) (v : Value) (s' : Shared) : Prop :=
  ∃ (x : Int) (t : Tok) (h' : Heap) (tk' : Nat), v = .int x t ∧ (0 ≤ x ∧ x < b) ∧ s' = { s with heap := h', toks := tk' } ∧ Fr h₀ L h' m ∧ News h₀ L h' news
theorem which_cut {M : Model} {A : Around} {E : Value → Shared → Prop} {s : Shared} {h₀ : Heap} {L : Addr} {m : Names} {news : Ledger} {b : Int} {tb : Tok} {Q : Value → Shared → Prop} {t : Sem Value} (F : Fr h₀ L s.heap m) (N : News h₀ L s.heap news)
    (hb : m (Str.ofString "below") = some (.int b tb)) (h1 : WhichMark → wpAny M A t (fun v s' => WQ b h₀ L m news s v s') E s)
    (h2 : ∀ x u h' tk', 0 ≤ x ∧ x < b → Fr h₀ L h' m → News h₀ L h' news → Q (.int x u) { s with heap := h', toks := tk' }) : wpAny M A t Q E s := by
  refine wpAny_mono (h1 ⟨⟩) (fun v s' h => ?_) fun _ _ h => h
  obtain ⟨x, u, h', tk', rfl, hx, rfl, F', N'⟩ := h
  exact h2 x u h' tk' hx F' N'
theorem fmod_bd (a : Int) {b : Int} (h : 0 < b) : 0 ≤ Int.fmod a b ∧ Int.fmod a b < b := ⟨Int.fmod_nonneg_of_pos a h, Int.fmod_lt_of_pos a h⟩
theorem WQ.intro {b a : Int} {h₀ : Heap} {L : Addr} {m : Names} {news : Ledger} {s : Shared} {t : Tok} {h' : Heap} {tk' : Nat} (hb : 0 < b) (F : Fr h₀ L h' m) (N : News h₀ L h' news) :
    WQ b h₀ L m news s (.int (Int.fmod a b) t) { s with heap := h', toks := tk' } := ⟨_, _, _, _, rfl, fmod_bd a hb, rfl, F, N⟩
theorem num_list : (List.map (fun a => a) (List.filter (fun a => ![(4 : Int), 9, 16, 25].any fun x => x == a) (rangeInts 2 1 (30 - 2 : Int).toNat))) = ln := by decide +kernel
theorem num_item {prog : Program} {w : World} {A : Around} {E : Value → Shared → Prop} {s : Shared} {h₀ : Heap} {L D : Addr} {news : Ledger} {ys : List Value} {n : Nat} {x : Int} {u : Tok} {value slice : PySem.Expr} {Q : Value → Shared → Prop} (N : News h₀ L s.heap news) (hm : (D, listOf ys.toArray n) ∈ news)
    (hi : IntsAre ys (List.map (fun a => a) (List.filter (fun a => ![(4 : Int), 9, 16, 25].any fun x => x == a) (rangeInts 2 1 (30 - 2 : Int).toNat)))) (hx : 0 ≤ x ∧ x < 24) (h : ∀ k t, k < 24 → Q (.int (cn k) t) s)
    (hs : subscripted slice false (.ref D) (.int x u) = operate [.ref D, .int x u] (getItem (.ref D) (.int x u)) := by with_unfolding_all rfl) :
    wpAny (model prog w) A (subscriptTail value slice (.ref D) (.int x u)) Q E s := by
  rw [num_list] at hi
  have hlen : ln.length = 24 := by decide
  refine item_anyK (News.isList N hm) hi hx.1 (by omega) (by omega) (fun t => ?_) hs
  have := h x.toNat t (by omega)
  unfold cn at this
  exact this
theorem rows57 : True := by
  k_with "eval IfExp Compare BinOp BinOp" => (k_here; (fail_if_success (with_reducible rename WhichMark => hwm9)); (with_reducible rename Fr _ _ _ _ => kF9); (with_reducible rename News _ _ _ _ => kN9); focus (k_dflt (refine' which_cut kF9 kN9 ?hbq9 ?_ ?_; (case hbq9 => with_unfolding_all rfl)); (intro hwm9); (try k_fold); rotate_left; (intro x9 u9 h9 tk9 hx9 F9 N9); (try k_sweep); (try k_fold)))
  k_with "WQ" => (with_unfolding_all refine' WQ.intro ?bq9 ?Fq9 ?Nq9; (case bq9 => omega); (case Fq9 => k_asm); (case Nq9 => k_asm))
  k_with "subscriptTail ListComp" => (k_here; k_dflt (refine' num_item ?k1q9 ?k2q9 ?k3q9 ?k4q9 ?_ ?k5q9; (case k1q9 => k_asm); (case k2q9 => k_mem); (case k3q9 => with_reducible assumption); (case k4q9 => with_reducible assumption); (case k5q9 => with_unfolding_all rfl)); intro k9 u9 hk9; (try ((with_reducible rename CarriedAll _ _ => hca9); clear hca9)); (have hPF9 := preF hk9); (try k_fold))
  trivial
structure LS where
  t : Nat
  st : Addr
  ap : Value
  sz : Int
  szt : Tok
  pv : List Value
  tv : List Value
  fv : List Value
  pn : Nat
  tn : Nat
  fn : Nat
  cl : Obj
abbrev LLed (aP aT aF aC : Addr) (c : LS) : Ledger := [(aP, listOf c.pv.toArray c.pn), (aT, listOf c.tv.toArray c.tn), (aF, listOf c.fv.toArray c.fn), (aC, c.cl)]
abbrev LNam (c : LS) : List (Str × Value) := [(Str.ofString "state", .ref c.st), (Str.ofString "size", .int c.sz c.szt), (Str.ofString "apart", c.ap)]
abbrev LTmp : List Str := [Str.ofString "added", Str.ofString "below", Str.ofString "ahead", Str.ofString "here", Str.ofString "quotient", Str.ofString "near"]
def partsL (k t : Nat) : List Int := (List.range t).map fun j => tP k (j + 1)
def toldL (k t : Nat) : List Int := (List.range t).map fun j => tT k j
def sizeAt (k t : Nat) : Int := if t < csz k then 0 else csz k
/-- a pair of ints stands in the ledger -/
def PairAt (led : Ledger) (v : Value) (x y : Int) : Prop := ∃ (a : Addr) (t1 t2 : Tok) (c : Nat), v = .ref a ∧ (a, tupO [.int x t1, .int y t2] c) ∈ led
def FracsAre (k : Nat) (led : Ledger) (vs : List Value) (n : Nat) : Prop := vs.length = n ∧ ∀ j, j < n → ∃ v, vs[j]? = some v ∧ PairAt led v (tHx k j) (tHy k j)
def ApIs (k t : Nat) (led : Ledger) (v : Value) : Prop := (t = 0 ∧ v = .none) ∨ (0 < t ∧ PairAt led v (tNx k (t - 1)) (tNe k (t - 1)))
def StIs (k t : Nat) (led : Ledger) (a : Addr) : Prop := ∃ (t1 t2 t3 : Tok) (c : Nat), (a, tupO [.int (tA k t) t1, .int (tB k t) t2, .int (tP k t) t3] c) ∈ led
structure LFacts (k : Nat) (led : Ledger) (c : LS) : Prop where
  st : StIs k c.t led c.st
  ap : ApIs k c.t led c.ap
  fr : FracsAre k led c.fv (c.t + 2)
structure LP (k : Nat) (c : LS) : Prop where
  lt : c.t < 2 * csz k
  sz : c.sz = sizeAt k c.t
  pv : IntsAre c.pv (partsL k c.t)
  tv : IntsAre c.tv (toldL k c.t)
  cl : ∃ v, c.cl.data = .cell v
theorem PairAt.mono {led led' : Ledger} {v : Value} {x y : Int} (hs : ∀ p ∈ led, p ∈ led') (h : PairAt led v x y) : PairAt led' v x y := by
  obtain ⟨a, t1, t2, c, e, hm⟩ := h
  exact ⟨a, t1, t2, c, e, hs _ hm⟩
theorem FracsAre.mono {k n : Nat} {led led' : Ledger} {vs : List Value} (hs : ∀ p ∈ led, p ∈ led') (h : FracsAre k led vs n) : FracsAre k led' vs n :=
  ⟨h.1, fun j hj => let ⟨v, a, b⟩ := h.2 j hj; ⟨v, a, b.mono hs⟩⟩
theorem LFacts.mono {k : Nat} {led led' : Ledger} {c : LS} (hs : ∀ p ∈ led, p ∈ led') (h : LFacts k led c) : LFacts k led' c := by
  refine ⟨?_, ?_, h.fr.mono hs⟩
  · obtain ⟨t1, t2, t3, n, hm⟩ := h.st
    exact ⟨t1, t2, t3, n, hs _ hm⟩
  · rcases h.ap with h | ⟨h1, h2⟩
    · exact .inl h
    · exact .inr ⟨h1, h2.mono hs⟩
def LEnd (k : Nat) (h₀ : Heap) (L : Addr) (m₀ : Names) (aP aT aF aC aB : Addr) (oB : Obj) (T R : Ledger) (t : Nat) (s₁ s₂ : Shared) : Prop :=
  ∃ (c' : LS) (add : Ledger) (h' : Heap) (tk : Nat) (m' : Names) (news' : Ledger), s₂ = { s₁ with heap := h', toks := tk } ∧ Fr h₀ L h' m' ∧ News h₀ L h' news' ∧
    (∀ p ∈ LLed aP aT aF aC c' ++ ((aB, oB) :: R), p ∈ news') ∧ (∀ p ∈ add, p ∈ news') ∧ (∀ q ∈ add, aP < q.1 ∧ aT < q.1 ∧ aF < q.1 ∧ aC < q.1 ∧ aB < q.1 ∧ AllLt q.1 R) ∧ LFacts k (add ++ T) c' ∧ LP k c' ∧ c'.t = t + 1 ∧
    (∀ p ∈ LNam c', m' p.1 = some p.2) ∧ (∀ z, z ≠ Str.ofString "turn" → (∀ p ∈ LNam c', z ≠ p.1) → LTmp.contains z = false → m' z = m₀ z)
def LPost (k : Nat) (h₀ : Heap) (L : Addr) (m₀ : Names) (aP aT aF aC aB : Addr) (oB : Obj) (T R : Ledger) (t : Nat) (s₁ : Shared) (Q : Flow → Shared → Prop) (f : Flow) (s₂ : Shared) : Prop :=
  match f with
  | .ret v => Q (.ret v) s₂
  | .brk => Q .next s₂
  | _ => LEnd k h₀ L m₀ aP aT aF aC aB oB T R t s₁ s₂
theorem off_lt {R : Ledger} {d : Addr} (h : AllLt d R) : ∀ p ∈ R, p.1 ≠ d := fun p hp => Nat.ne_of_lt (ktn_ltOf h p hp)
theorem my_loop {prog : Program} {w : World} {A : Around} {E : Value → Shared → Prop} {s : Shared} {env : Env} {h₀ : Heap} {body : List Stmt} {Q : Flow → Shared → Prop} {r : Addr} {t₀ u₀ v₀ : Tok} {m₀ : Names} {k : Nat} {aP aT aF aC aB : Addr} {oB : Obj} {C : Ledger} {L : Addr} (c₀ : LS) (hz6 : csz k ≤ 6) (hL : env.locals = L)
    (hh : A.handled = none) (hr : IsRange s.heap r 0 12 1 t₀ u₀ v₀) (F : Fr h₀ L s.heap m₀) (N : News h₀ L s.heap (LLed aP aT aF aC c₀ ++ ((aB, oB) :: C)))
    (hf : LFacts k C c₀) (hk : ∀ p ∈ LNam c₀, m₀ p.1 = some p.2) (hp : LP k c₀) (ht0 : c₀.t = 0) (hC : OwnOff C [aP, aT, aF, aC, aB])
    (turn : ∀ (c : LS) (T R : Ledger) (t : Tok) (u : Names) (h : Heap) (tk : Nat), c.t < 12 → (∀ p ∈ C, p ∈ R) → (∀ p ∈ T, p ∈ R) → OwnOff R [aP, aT, aF, aC, aB] → LFacts k T c → LP k c →
      Fr h₀ L h (fun y => if y = Str.ofString "turn" then some (.int ((c.t : Nat) : Int) t) else kstB (fun z => if LTmp.contains z then u z else m₀ z) (LNam c) y) → News h₀ L h (LLed aP aT aF aC c ++ ((aB, oB) :: R)) →
      wpAny (model prog w) A (execs body env) (LPost k h₀ L m₀ aP aT aF aC aB oB T R c.t { s with heap := h, toks := tk } Q) E { s with heap := h, toks := tk }) :
    wpAny (model prog w) A (pyIter (.ref r)) (fun it s₂ => LoopAtV prog w A h₀ env (Str.ofString "turn") body Q E it s₂) E s := by
  subst hL
  refine kd_range (n := 12) (LLed aP aT aF aC) ((aB, oB) :: C) LNam (fun led c => LFacts k led.tail c) LTmp (fun pre c => c.t = pre.length ∧ LP k c) ([aP, aT, aF, aC, aB] ++ C.map (·.1)) c₀ hh hr (by decide) (by decide) F N (by simp) (fun c => rfl) (by simpa using hf) hk ⟨ht0, hp⟩ ?_ ?_
  · rintro c tl pre kk t u h tk own rfl hlt hsep hoff hfacts ⟨hct, hP⟩ F₁ N₁
    have e1 : (0 : Int) + (pre.length : Int) = ((c.t : Nat) : Int) := by rw [hct]; omega
    rw [e1] at F₁
    have hR : OwnOff (C ++ (tl ++ own)) [aP, aT, aF, aC, aB] := by
      intro p hp b hb
      have hb' : b ∈ [aP, aT, aF, aC, aB] ++ C.map (·.1) := List.mem_append.mpr (.inl hb)
      rcases List.mem_append.mp hp with hp | hp
      · exact hC p hp b hb
      · rcases List.mem_append.mp hp with hp | hp
        · exact hsep.three p hp b hb'
        · exact hsep.one p hp b hb'
    refine wpAny_mono (turn c (C ++ tl) (C ++ (tl ++ own)) t u h tk (by omega) (fun p hp => List.mem_append.mpr (.inl hp)) (fun p hp => ?_) hR (by simpa using hfacts) hP F₁ (by simpa using N₁)) (fun f s₂ q => ?_) fun _ _ x => x
    · rcases List.mem_append.mp hp with hp | hp
      · exact List.mem_append.mpr (.inl hp)
      · exact List.mem_append.mpr (.inr (List.mem_append.mpr (.inl hp)))
    have fin : LEnd k h₀ env.locals m₀ aP aT aF aC aB oB (C ++ tl) (C ++ (tl ++ own)) c.t { s with heap := h, toks := tk } s₂ → InvEndG h₀ env.locals (KdS (LLed aP aT aF aC) ((aB, oB) :: C) LNam (fun led c => LFacts k led.tail c) (Str.ofString "turn") LTmp m₀ (fun pre c => c.t = pre.length ∧ LP k c) ([aP, aT, aF, aC, aB] ++ C.map (·.1)) (pre ++ [0 + (pre.length : Int)])) own { s with heap := h, toks := tk } s₂ := by
      rintro ⟨c', add, h', tk', m', news', rfl, F', N', hin, hadd, hlt', hfc, hPc, hct', hnm, hrest⟩
      refine kd_end c' add hsep F' N' ?_ ?_ rfl ?_ ?_ hnm hrest ?_ ⟨by rw [hct', hct]; simp, hPc⟩
      · intro p hp
        rcases List.mem_append.mp hp with hp | hp
        · exact hin p (List.mem_append.mpr (.inl hp))
        · rcases List.mem_append.mp hp with hp | hp
          · refine hin p (List.mem_append.mpr (.inr ?_))
            rcases List.mem_cons.mp hp with rfl | hp
            · exact .head _
            · exact .tail _ (List.mem_append.mpr (.inl hp))
          · rcases List.mem_append.mp hp with hp | hp
            · exact hadd p hp
            · exact hin p (List.mem_append.mpr (.inr (.tail _ (List.mem_append.mpr (.inr (List.mem_append.mpr (.inl hp)))))))
      · intro p hp
        exact hin p (List.mem_append.mpr (.inr (.tail _ (List.mem_append.mpr (.inr (List.mem_append.mpr (.inr hp)))))))
      · intro q hq b hb
        obtain ⟨l1, l2, l3, l4, l5, l6⟩ := hlt' q hq
        rcases List.mem_append.mp hb with hb | hb
        · simp only [List.mem_cons, List.not_mem_nil, or_false] at hb
          rcases hb with rfl | rfl | rfl | rfl | rfl <;> exact Nat.ne_of_lt (by assumption)
        · obtain ⟨p, hp, rfl⟩ := List.mem_map.mp hb
          exact off_lt l6 p (List.mem_append.mpr (.inl hp))
      · intro q hq p hp
        exact off_lt (hlt' q hq).2.2.2.2.2 p (List.mem_append.mpr (.inr (List.mem_append.mpr (.inr hp))))
      · refine LFacts.mono ?_ hfc
        intro p hp
        show p ∈ C ++ (add ++ tl)
        rcases List.mem_append.mp hp with hp | hp
        · exact List.mem_append.mpr (.inr (List.mem_append.mpr (.inl hp)))
        · rcases List.mem_append.mp hp with hp | hp
          · exact List.mem_append.mpr (.inl hp)
          · exact List.mem_append.mpr (.inr (List.mem_append.mpr (.inr hp)))
    cases f with
    | ret v => exact q
    | brk => exact q
    | next => exact fin q
    | cont => exact fin q
  · rintro c tl u h tk hoff hfacts ⟨hct, hP⟩ F₁ N₁
    exfalso
    have := hP.lt
    rw [hct, rangeKs_length] at this
    omega
theorem append_L {prog : Program} {w : World} {A : Around} {E : Value → Shared → Prop} {s : Shared} {h₀ : Heap} {L D : Addr} {m : Names} {news news' : Ledger} {vs : List Value} {n : Nat} {x : Value} {Q : Value → Shared → Prop} (F : Fr h₀ L s.heap m) (N : News h₀ L s.heap news) (U : Upd D (listOf vs.toArray n) (listOf (vs ++ [x]).toArray (n + 1)) news news')
    (hsz : vs.length ≤ 1000) (h : ∀ h', Fr h₀ L h' m → News h₀ L h' news' → Q .none { s with heap := h' }) : wpAny (model prog w) A (call (.builtin "list.append") [.ref D, x]) Q E s := by
  rw [← List.push_toArray] at U
  exact append_K F N U h (by rw [List.size_toArray, sizeLine_eq]; omega)
theorem rows60 : True := by
  k_with "call builtin:list.append" => (k_here; (with_reducible show wpAny _ _ (call (Value.builtin _) [Value.ref _, _]) _ _ _); k_dflt (refine' append_L ?k1q9 ?k2q9 ?k3q9 ?zq9 ?_; (case k1q9 => k_asm); (case k2q9 => k_asm); (case k3q9 => k_upd); (case zq9 => omega); k_whole); intro h' F' N'; (try k_sweep))
  trivial
theorem seq_m2 {n t : Nat} (h : n = t + 2) : seqIndex? (-2) n = some t := by
  subst h
  unfold seqIndex?
  simp
  omega
theorem seq_m1 {n t : Nat} (h : n = t + 1) : seqIndex? (-1) n = some t := by
  subst h
  unfold seqIndex?
  simp
  omega
structure LoopMark (T R : Ledger) : Prop where
  sub : ∀ p ∈ T, p ∈ R
theorem law_start {prog : Program} {w : World} {A : Around} {E : Value → Shared → Prop} {s : Shared} {env : Env} {h₀ : Heap} {body : List Stmt} {Q : Flow → Shared → Prop} {r : Addr} {t₀ u₀ v₀ : Tok} {m₀ : Names} {k : Nat} {aP aT aF aC aB st fa fb rt sl : Addr} {tn tf szt a1 a2 a3 a4 a5 a6 a7 tsp r1 r2 : Tok} {sp : Int} {c4 c5 c6 c7 c8 pn ttn fn : Nat} {cl oS : Obj} {vc : Option Value} {news : Ledger} {L : Addr} (hL : env.locals = L)
    (hnum : m₀ (Str.ofString "number") = some (.int (cn k) tn)) (hfirst : m₀ (Str.ofString "first") = some (.int (cf k) tf)) (hst : m₀ (Str.ofString "state") = some (.ref st)) (hsz : m₀ (Str.ofString "size") = some (.int 0 szt)) (hap : m₀ (Str.ofString "apart") = some .none)
    (hPn : m₀ (Str.ofString "parts") = some (.ref aP)) (hTn : m₀ (Str.ofString "told") = some (.ref aT)) (hFn : m₀ (Str.ofString "fractions") = some (.ref aF)) (hBn : m₀ (Str.ofString "bag") = some (.ref aB)) (hRn : m₀ (Str.ofString "root") = some (.ref rt))
    (hh : A.handled = none) (hr : IsRange s.heap r 0 12 1 t₀ u₀ v₀) (F : Fr h₀ L s.heap m₀) (N : News h₀ L s.heap news)
    (n1 : (aP, listOf #[] pn) ∈ news) (n2 : (aT, listOf #[] ttn) ∈ news) (n3 : (aF, listOf #[.ref fa, .ref fb] fn) ∈ news) (n4 : (fa, tupO [.int 1 a1, .int 0 a2] c4) ∈ news) (n5 : (fb, tupO [.int (cf k) a3, .int 1 a4] c5) ∈ news)
    (n6 : (st, tupO [.int 0 a5, .int 1 a6, .int (cf k) a7] c6) ∈ news) (n8 : (aB, listOf #[.ref sl, .int sp tsp] c7) ∈ news) (n9 : (rt, tupO [.int (crx k) r1, .int (cre k) r2] c8) ∈ news) (n10 : (sl, oS) ∈ news) (hcl : cl.data = .cell vc) (n7 : (aC, cl) ∈ news)
    (hC : OwnOff [(st, tupO [.int 0 a5, .int 1 a6, .int (cf k) a7] c6), (fa, tupO [.int 1 a1, .int 0 a2] c4), (fb, tupO [.int (cf k) a3, .int 1 a4] c5), (rt, tupO [.int (crx k) r1, .int (cre k) r2] c8), (sl, oS)] [aP, aT, aF, aC, aB])
    (hk : k < 24)
    (turn : ∀ (c : LS) (T R : Ledger) (t : Tok) (u : Names) (h : Heap) (tk : Nat), c.t < 12 → (rt, tupO [.int (crx k) r1, .int (cre k) r2] c8) ∈ R → (sl, oS) ∈ R → (∀ p ∈ T, p ∈ R) → OwnOff R [aP, aT, aF, aC, aB] → LFacts k T c → LP k c →
      Fr h₀ L h (fun y => if y = Str.ofString "turn" then some (.int ((c.t : Nat) : Int) t) else kstB (fun z => if LTmp.contains z then u z else m₀ z) (LNam c) y) → News h₀ L h (LLed aP aT aF aC c ++ ((aB, listOf #[.ref sl, .int sp tsp] c7) :: R)) →
      wpAny (model prog w) A (execs body env) (LPost k h₀ L m₀ aP aT aF aC aB (listOf #[.ref sl, .int sp tsp] c7) T R c.t { s with heap := h, toks := tk } Q) E { s with heap := h, toks := tk }) :
    wpAny (model prog w) A (pyIter (.ref r)) (fun it s₂ => LoopAtV prog w A h₀ env (Str.ofString "turn") body Q E it s₂) E s := by
  have hp := preF hk
  refine my_loop (k := k) (aP := aP) (aT := aT) (aF := aF) (aC := aC) (aB := aB) (oB := listOf #[.ref sl, .int sp tsp] c7)
    (C := [(st, tupO [.int 0 a5, .int 1 a6, .int (cf k) a7] c6), (fa, tupO [.int 1 a1, .int 0 a2] c4), (fb, tupO [.int (cf k) a3, .int 1 a4] c5), (rt, tupO [.int (crx k) r1, .int (cre k) r2] c8), (sl, oS)])
    ⟨0, st, .none, 0, szt, [], [], [.ref fa, .ref fb], pn, ttn, fn, cl⟩ hp.z2 hL hh hr F ?_ ?_ ?_ ?_ rfl hC ?_
  · intro p hp
    refine N p ?_
    simp only [List.cons_append, List.nil_append, List.mem_cons, List.not_mem_nil, or_false] at hp
    rcases hp with rfl | rfl | rfl | rfl | rfl | rfl | rfl | rfl | rfl | rfl <;> assumption
  · refine ⟨⟨a5, a6, a7, c6, ?_⟩, .inl ⟨rfl, rfl⟩, rfl, ?_⟩
    · show (st, tupO [.int (tA k 0) a5, .int (tB k 0) a6, .int (tP k 0) a7] c6) ∈ _
      rw [hp.a0, hp.b0, hp.p0]
      exact .head _
    · intro j hj
      have hj' : j = 0 ∨ j = 1 := by
        have : j < 2 := hj
        omega
      rcases hj' with rfl | rfl
      · refine ⟨.ref fa, rfl, fa, a1, a2, c4, rfl, ?_⟩
        rw [hp.h0, hp.h1]
        exact .tail _ (.head _)
      · refine ⟨.ref fb, rfl, fb, a3, a4, c5, rfl, ?_⟩
        rw [hp.h2, hp.h3]
        exact .tail _ (.tail _ (.head _))
  · intro p hp
    simp only [List.mem_cons, List.not_mem_nil, or_false] at hp
    rcases hp with rfl | rfl | rfl
    · exact hst
    · exact hsz
    · exact hap
  · refine ⟨by have := hp.z1; show 0 < 2 * csz k; omega, ?_, .nil, .nil, vc, hcl⟩
    show (0 : Int) = sizeAt k 0
    unfold sizeAt
    rw [if_pos (by have := hp.z1; omega)]
  · intro c T R t u h tk h1 h2 h3 h4 h5 h6 h7 h8
    exact turn c T R t u h tk h1 (h2 _ (.tail _ (.tail _ (.tail _ (.head _))))) (h2 _ (.tail _ (.tail _ (.tail _ (.tail _ (.head _)))))) h3 h4 h5 h6 h7 h8
theorem snoc_get {vs : List Value} {x : Value} {t : Nat} (h : vs.length = t) : (vs ++ [x])[t]? = some x := by
  subst h
  simp
theorem snoc_len {vs : List Value} {x : Value} {t : Nat} (h : vs.length = t) : (vs ++ [x]).length = t + 1 := by simp [h]
theorem rows63 : True := by
  k_with "subscriptTail Name UnaryOp ref int" => (k_here; (with_reducible show wpAny _ _ (subscriptTail _ _ (Value.ref _) (Value.int (-2) _)) _ _ _); k_dflt (refine' kde_neg (News.isList ?k1q9 ?k2q9) ?h0q9 ?hlq9 ?hjq9 ?hxq9 ?_ ?hsq9; (case k1q9 => k_asm); (case k2q9 => k_mem); (case h0q9 => decide); (case hlq9 => decide); (case hjq9 => exact seq_m2 (by with_reducible assumption)); (case hxq9 => with_reducible assumption); (case hsq9 => with_unfolding_all rfl)))
  k_with "subscriptTail Name UnaryOp ref int" => (k_here; (with_reducible show wpAny _ _ (subscriptTail _ _ (Value.ref _) (Value.int (-1) _)) _ _ _); k_dflt (refine' kde_neg (News.isList ?k1q9 ?k2q9) ?h0q9 ?hlq9 ?hjq9 ?hxq9 ?_ ?hsq9; (case k1q9 => k_asm); (case k2q9 => k_mem); (case h0q9 => decide); (case hlq9 => decide); (case hjq9 => first | exact seq_m1 (by with_reducible assumption) | exact seq_m1 (snoc_len (by with_reducible assumption))); (case hxq9 => first | with_reducible assumption | exact snoc_get (by with_reducible assumption)); (case hsq9 => with_unfolding_all rfl)))
  trivial
structure CutMark : Prop where
def IfQ (h₀ : Heap) (L : Addr) (m : Names) (news : Ledger) (s : Shared) (f : Flow) (s' : Shared) : Prop :=
  f = .next ∧ ∃ (h' : Heap) (tk' : Nat), s' = { s with heap := h', toks := tk' } ∧ Fr h₀ L h' m ∧ News h₀ L h' news
theorem if_cut {M : Model} {A : Around} {E : Value → Shared → Prop} {s : Shared} {h₀ : Heap} {L : Addr} {m : Names} {news : Ledger} {Q : Flow → Shared → Prop} {t : Sem Flow} (_F : Fr h₀ L s.heap m) (_N : News h₀ L s.heap news)
    (h1 : wpAny M A t (fun f s' => IfQ h₀ L m news s f s') E s) (h2 : ∀ h' tk', Fr h₀ L h' m → News h₀ L h' news → Q .next { s with heap := h', toks := tk' }) : wpAny M A t Q E s := by
  refine wpAny_mono h1 (fun f s' h => ?_) fun _ _ h => h
  obtain ⟨rfl, h', tk', rfl, F', N'⟩ := h
  exact h2 h' tk' F' N'
theorem IfQ.intro {h₀ : Heap} {L : Addr} {m : Names} {news news' : Ledger} {s : Shared} {h' : Heap} {tk' : Nat} (F : Fr h₀ L h' m) (N : News h₀ L h' news') (hs : ∀ p ∈ news, p ∈ news') : IfQ h₀ L m news s .next { s with heap := h', toks := tk' } := ⟨rfl, h', tk', rfl, F, cb_drop N hs⟩
def SzQ (k t : Nat) (h₀ : Heap) (L : Addr) (m : Names) (news : Ledger) (s : Shared) (f : Flow) (s' : Shared) : Prop :=
  f = .next ∧ ∃ (u : Tok) (h' : Heap) (tk' : Nat), s' = { s with heap := h', toks := tk' } ∧ Fr h₀ L h' (fun y => if y = Str.ofString "size" then some (.int (sizeAt k (t + 1)) u) else m y) ∧ News h₀ L h' news
theorem sz_cut {M : Model} {A : Around} {E : Value → Shared → Prop} {s : Shared} {h₀ : Heap} {L : Addr} {m : Names} {news : Ledger} {Q : Flow → Shared → Prop} {tr : Sem Flow} (k t : Nat) (_F : Fr h₀ L s.heap m) (_N : News h₀ L s.heap news)
    (h1 : wpAny M A tr (fun f s' => SzQ k t h₀ L m news s f s') E s) (h2 : ∀ u h' tk', Fr h₀ L h' (fun y => if y = Str.ofString "size" then some (.int (sizeAt k (t + 1)) u) else m y) → News h₀ L h' news → Q .next { s with heap := h', toks := tk' }) : wpAny M A tr Q E s := by
  refine wpAny_mono h1 (fun f s' h => ?_) fun _ _ h => h
  obtain ⟨rfl, u, h', tk', rfl, F', N'⟩ := h
  exact h2 u h' tk' F' N'
theorem SzQ.new {k t : Nat} {h₀ : Heap} {L : Addr} {m : Names} {news : Ledger} {s : Shared} {h' : Heap} {tk' : Nat} {v : Int} {u : Tok} (F : Fr h₀ L h' (fun y => if y = Str.ofString "size" then some (.int v u) else m y)) (N : News h₀ L h' news) (e : v = sizeAt k (t + 1)) :
    SzQ k t h₀ L m news s .next { s with heap := h', toks := tk' } := by
  subst e
  exact ⟨rfl, u, h', tk', rfl, F, N⟩
theorem SzQ.old {k t : Nat} {h₀ : Heap} {L : Addr} {m : Names} {news : Ledger} {s : Shared} {h' : Heap} {tk' : Nat} {v : Int} {u : Tok} (hm : m (Str.ofString "size") = some (.int v u)) (F : Fr h₀ L h' m) (N : News h₀ L h' news) (e : v = sizeAt k (t + 1)) :
    SzQ k t h₀ L m news s .next { s with heap := h', toks := tk' } := by
  subst e
  refine ⟨rfl, u, h', tk', rfl, ?_, N⟩
  have : (fun y => if y = Str.ofString "size" then some (Value.int (sizeAt k (t + 1)) u) else m y) = m := by
    funext y
    by_cases hy : y = Str.ofString "size"
    · rw [if_pos hy, hy, hm]
    · rw [if_neg hy]
  rw [this]
  exact F
theorem sizeAt_is (k t : Nat) : (t < csz k ∧ sizeAt k t = 0) ∨ (csz k ≤ t ∧ sizeAt k t = (csz k : Int)) := by
  unfold sizeAt
  split
  · exact .inl ⟨by assumption, rfl⟩
  · exact .inr ⟨by omega, rfl⟩
theorem sz_cutF {M : Model} {A : Around} {E : Value → Shared → Prop} {s : Shared} {h₀ : Heap} {L : Addr} {m : Names} {news : Ledger} {Q : Flow → Shared → Prop} {tr : Sem Flow} {k t : Nat} (hT : TurnF k t) (hP : PreF k) (F : Fr h₀ L s.heap m) (N : News h₀ L s.heap news)
    (h1 : CutMark → 1 ≤ csz k → (t < csz k → (tP k (t + 1) = 2 * cf k ↔ t + 1 = csz k)) → ((t < csz k ∧ sizeAt k t = 0) ∨ (csz k ≤ t ∧ sizeAt k t = (csz k : Int))) → ((t + 1 < csz k ∧ sizeAt k (t + 1) = 0) ∨ (csz k ≤ t + 1 ∧ sizeAt k (t + 1) = (csz k : Int))) → wpAny M A tr (fun f s' => SzQ k t h₀ L m news s f s') E s)
    (h2 : ((t + 1 < csz k ∧ sizeAt k (t + 1) = 0) ∨ (csz k ≤ t + 1 ∧ sizeAt k (t + 1) = (csz k : Int))) → ∀ u h' tk', Fr h₀ L h' (fun y => if y = Str.ofString "size" then some (.int (sizeAt k (t + 1)) u) else m y) → News h₀ L h' news → Q .next { s with heap := h', toks := tk' }) : wpAny M A tr Q E s :=
  sz_cut k t F N (h1 ⟨⟩ hP.z1 hT.sz (sizeAt_is k t) (sizeAt_is k (t + 1))) (h2 (sizeAt_is k (t + 1)))
theorem TurnF.par {k t : Nat} (h : TurnF k t) : (Int.fmod (t : Int) 2 = 1 ∧ tT k t = tB k (t + 1) ∧ cmpF (tQx k t) (tQe k t) (crx k) (cre k) = 1) ∨ (¬ Int.fmod (t : Int) 2 = 1 ∧ tT k t = 0 - tB k (t + 1) ∧ cmpF (tQx k t) (tQe k t) (crx k) (cre k) = 0 - 1) := by
  by_cases hp : Int.fmod (t : Int) 2 = 1
  · exact .inl ⟨hp, h.tv1 hp, h.cq1 hp⟩
  · exact .inr ⟨hp, h.tv2 hp, h.cq2 hp⟩
theorem ite_neg_of {c : Prop} [Decidable c] {A B : Prop} (h : ¬ c) (b : B) : ite c A B := by rw [if_neg h]; exact b
def BrQ (k t : Nat) (h₀ : Heap) (L : Addr) (m : Names) (news : Ledger) (s : Shared) (f : Flow) (s' : Shared) : Prop :=
  ((f = .brk ∧ t + 1 = 2 * csz k) ∨ (f = .next ∧ t + 1 < 2 * csz k)) ∧ ∃ (h' : Heap) (tk' : Nat), s' = { s with heap := h', toks := tk' } ∧ Fr h₀ L h' m ∧ News h₀ L h' news
theorem br_cut {M : Model} {A : Around} {E : Value → Shared → Prop} {s : Shared} {h₀ : Heap} {L : Addr} {m : Names} {news : Ledger} {Q : Flow → Shared → Prop} {tr : Sem Flow} {k t : Nat} (_hT : TurnF k t) (hP : PreF k) (_F : Fr h₀ L s.heap m) (_N : News h₀ L s.heap news)
    (h1 : CutMark → 1 ≤ csz k → wpAny M A tr (fun f s' => BrQ k t h₀ L m news s f s') E s)
    (h2 : ∀ h' tk', t + 1 = 2 * csz k → sizeAt k (t + 1) = (csz k : Int) → Fr h₀ L h' m → News h₀ L h' news → Q .brk { s with heap := h', toks := tk' })
    (h3 : ∀ h' tk', t + 1 < 2 * csz k → Fr h₀ L h' m → News h₀ L h' news → Q .next { s with heap := h', toks := tk' }) : wpAny M A tr Q E s := by
  refine wpAny_mono (h1 ⟨⟩ hP.z1) (fun f s' h => ?_) fun _ _ h => h
  obtain ⟨h, h', tk', rfl, F', N'⟩ := h
  rcases h with ⟨rfl, e⟩ | ⟨rfl, e⟩
  · refine h2 h' tk' e ?_ F' N'
    have := hP.z1
    rcases sizeAt_is k (t + 1) with ⟨a, b⟩ | ⟨a, b⟩
    · omega
    · exact b
  · exact h3 h' tk' e F' N'
theorem BrQ.brk {k t : Nat} {h₀ : Heap} {L : Addr} {m : Names} {news : Ledger} {s : Shared} {h' : Heap} {tk' : Nat} (F : Fr h₀ L h' m) (N : News h₀ L h' news) (e : t + 1 = 2 * csz k) : BrQ k t h₀ L m news s .brk { s with heap := h', toks := tk' } := ⟨.inl ⟨rfl, e⟩, h', tk', rfl, F, N⟩
theorem BrQ.next {k t : Nat} {h₀ : Heap} {L : Addr} {m : Names} {news : Ledger} {s : Shared} {h' : Heap} {tk' : Nat} (F : Fr h₀ L h' m) (N : News h₀ L h' news) (e : t + 1 < 2 * csz k) : BrQ k t h₀ L m news s .next { s with heap := h', toks := tk' } := ⟨.inr ⟨rfl, e⟩, h', tk', rfl, F, N⟩
theorem gen_toks {M : Model} {A : Around} {α : Type} {E : Value → Shared → Prop} {Q : α → Shared → Prop} {t : Sem α} {h : Heap} {g : Array GenState} {d : Drawn} {X : Nat} {o : OsState} (H : ∀ tk, wpAny M A t Q E ⟨h, g, d, tk, o⟩) : wpAny M A t Q E ⟨h, g, d, X, o⟩ := H X
theorem rows65 : True := by
  k_with "my cut" => (k_here; (with_reducible rename LoopMark _ _ => hlm9); (fail_if_success (with_reducible rename CutMark => hcm9)); (with_reducible rename Fr _ _ _ _ => kF9); (with_reducible rename News _ _ _ _ => kN9); k_dflt (refine' if_cut kF9 kN9 ?_ ?_); rotate_left; (intro h9 tk9 F9 N9); (try k_sweep); (try k_fold); rotate_left; (have hcm9 := CutMark.mk))
  k_with "exec If BoolOp cons nil" => ((with_reducible show wpAny _ _ (exec (Stmt.If (PySem.Expr.BoolOp PySem.BoolOp.Or _ _) _ _ _) _) _ _ _); focus (walk_at "my cut"; ((have hf1 := TurnF.b1 (by with_reducible assumption)); (rcases TurnF.par (by with_reducible assumption) with ⟨hf2, hf3, hf4⟩ | ⟨hf2, hf3, hf4⟩); all_goals (try k_fold))))
  k_with "exec If Compare cons nil" => ((with_reducible show wpAny _ _ (exec (Stmt.If (PySem.Expr.Compare (PySem.Expr.Call _ _ _ _) _ _ _) _ _ _) _) _ _ _); focus (walk_at "my cut"; ((rcases TurnF.par (by with_reducible assumption) with ⟨hf2, hf3, hf4⟩ | ⟨hf2, hf3, hf4⟩); all_goals (try k_fold))))
  k_with "exec If BoolOp cons nil" => ((with_reducible show wpAny _ _ (exec (Stmt.If (PySem.Expr.BoolOp _ (PySem.Expr.Compare _ [CmpOp.IsNot] _ _ :: _) _) _ _ _) _) _ _ _); focus (walk_at "my cut"; ((with_reducible rename ApIs _ _ _ _ => hap8); (with_reducible rename LoopMark _ _ => hlm9); (rcases hap8 with ⟨h08, hv8⟩ | ⟨h08, a8, b8, d8, e8, hv8, hm8⟩); (case' inr => ((have hm7 := hlm9.sub _ hm8); (have hne8 := (TurnF.ne (by with_reducible assumption) h08).2))); all_goals (try (subst hv8)); all_goals (try k_fold))))
  k_with "IfQ" => (with_unfolding_all refine' IfQ.intro ?Fq9 ?Nq9 ?Sq9; (case Fq9 => k_asm); (case Nq9 => assumption); (case Sq9 => walk_at "my sub"))
  k_with "exec If BoolOp cons nil" => ((with_reducible show wpAny _ _ (exec (Stmt.If (PySem.Expr.BoolOp _ (PySem.Expr.Compare (PySem.Expr.Name _ _) [CmpOp.Eq] _ _ :: _) _) _ _ _) _) _ _ _); k_here; (with_reducible rename LoopMark _ _ => hlm9); (fail_if_success (with_reducible rename CutMark => hcm9)); (with_reducible rename Fr _ _ _ _ => kF9); (with_reducible rename News _ _ _ _ => kN9); focus (k_dflt (refine' sz_cutF ?q1q9 ?q2q9 kF9 kN9 ?_ ?_; (case q1q9 => with_reducible assumption); (case q2q9 => with_reducible assumption)); (intro hcm9 hz1 hz2 hz3 hz4); (try k_fold); rotate_left; (intro hz9 u9 h9 tk9 F9 N9); (try k_sweep); (try k_fold); rotate_left))
  k_with "SzQ" => first | (with_unfolding_all refine' SzQ.new ?Fq9 ?Nq9 ?Sq9; (case Fq9 => k_asm); (case Nq9 => assumption); (case Sq9 => omega)) | (with_unfolding_all refine' SzQ.old ?Hq9 ?Fq9 ?Nq9 ?Sq9; (case Fq9 => k_asm); (case Nq9 => assumption); (case Hq9 => with_unfolding_all rfl); (case Sq9 => omega))
  k_with "ite" => ((with_reducible rename CutMark => hcm9); first | ((with_reducible refine ite_pos_of ?h9q9 ?_); (case h9q9 => ((simp only [beq_iff_eq, bne_iff_ne, ne_eq, decide_eq_true_eq]); omega))) | ((with_reducible refine ite_neg_of ?h9q9 ?_); (case h9q9 => ((simp only [beq_iff_eq, bne_iff_ne, ne_eq, decide_eq_true_eq]); omega))))
  k_with "exec If BoolOp cons nil" => ((with_reducible show wpAny _ _ (exec (Stmt.If (PySem.Expr.BoolOp _ (PySem.Expr.Compare (PySem.Expr.Name _ _) [CmpOp.Gt] _ _ :: _) _) _ _ _) _) _ _ _); k_here; (with_reducible rename LoopMark _ _ => hlm9); (fail_if_success (with_reducible rename CutMark => hcm9)); (with_reducible rename Fr _ _ _ _ => kF9); (with_reducible rename News _ _ _ _ => kN9); focus (k_dflt (refine' br_cut ?q1q9 ?q2q9 kF9 kN9 ?_ ?_ ?_; (case q1q9 => with_reducible assumption); (case q2q9 => with_reducible assumption)); (intro hcm9 hz1); (try k_fold); rotate_left; (intro h9 tk9 he8 he9 F9 N9); (try k_sweep); (try k_fold); rotate_left; (intro h9 tk9 he9 F9 N9); (try k_sweep); (try k_fold); rotate_left))
  k_with "BrQ" => first | (with_unfolding_all refine' BrQ.brk ?Fq9 ?Nq9 ?Sq9; (case Fq9 => k_asm); (case Nq9 => assumption); (case Sq9 => omega)) | (with_unfolding_all refine' BrQ.next ?Fq9 ?Nq9 ?Sq9; (case Fq9 => k_asm); (case Nq9 => assumption); (case Sq9 => omega))
  k_with "execs nil" => (k_here; (with_reducible show wpAny _ _ (execs [] _) _ _ (Shared.mk _ _ _ _ _)); (with_reducible refine gen_toks ?_); intro tk9; with_reducible refine wpAny_execs_nil ?_)
  trivial
/-- a tuple's iterator that stands at i -/
abbrev tIt (t : Addr) (i : Nat) : Obj := { cls := .type "tuple_iterator", dict := none, data := .fields #[.ref t, .int i 0], slots := #[] }
theorem tup_next (it t : Addr) (i : Nat) (xs : List Value) (x : Value) (c : Nat) (hx : xs.toArray[i]? = some x) :
    Meets (Builtin.«tuple_iterator.__next__» ⟨[.ref it], []⟩) (fun _ R s => s.heap.get? it = some (tIt t i) ∧ s.heap.get? t = some (tupO xs c) ∧
      R (.ok (.ret x)) { s with heap := s.heap.update it (Obj.mapFields fun f => f.setIfInBounds 1 (rawInt (i + 1))) }) :=
  .of_wp fun prog w A R ⟨hp, g, d, tk, os⟩ ⟨h1, h2, h⟩ => by
    wp_walk
    simp only [Int.toNat_natCast, hx]
    wp_walk
    exact ⟨x, rfl, h⟩
theorem tup_stop (it t : Addr) (i : Nat) (xs : List Value) (c : Nat) (hx : xs.toArray[i]? = none) :
    Meets (Builtin.«tuple_iterator.__next__» ⟨[.ref it], []⟩) (fun A R s => A.handled = none ∧ s.heap.get? it = some (tIt t i) ∧ s.heap.get? t = some (tupO xs c) ∧
      ∀ h' e, Heap.ExtBut it s.heap h' → (∃ o, h'.get? e = some o ∧ o.cls = .type "StopIteration") → R (.error (.ref e)) { s with heap := h' }) :=
  .of_wp fun prog w A R ⟨hp, g, d, tk, os⟩ ⟨hh, h1, h2, h⟩ => by
    wp_walk
    simp only [Int.toNat_natCast, hx]
    wp_walk
    refine wpAny_raiseNew_none hh (h _ _ (fun b o hb e => ?_) ⟨_, Heap.get?_push_size _ rfl, rfl⟩)
    have hb' : it ≠ b := fun x => hb x.symm
    replace e : hp.get? b = some o := e
    heap_get
section
variable {prog : Program} {w : World} {A : Around} {E : Value → Shared → Prop} {s : Shared} {Q : Value → Shared → Prop} {it t : Addr} {i c : Nat} {xs : List Value}
theorem nextT {x : Value} (h1 : s.heap.get? it = some (tIt t i)) (h2 : s.heap.get? t = some (tupO xs c)) (hx : xs.toArray[i]? = some x)
    (h : Q x { s with heap := s.heap.update it (Obj.mapFields fun f => f.setIfInBounds 1 (rawInt (i + 1))) }) : wpAny (model prog w) A (Builtin.SmallTypes.nextOf (.ref it)) Q E s := by
  have T : s.TypeIs (.ref it) "tuple_iterator" := ⟨_, h1, rfl⟩
  exact wpAny_bind (wpAny_callSpecial?_slot T PySem.F.slot_tuple_iterator_next (call_meets PySem.F.slot_tuple_iterator_next T PySem.F.entry_tuple_iterator_next (PySem.F.args_tuple_iterator_next_1 _) (tup_next it t i xs x c hx) ⟨h1, h2, wpAny_pure h⟩))
theorem stopT (hh : A.handled = none) (h1 : s.heap.get? it = some (tIt t i)) (h2 : s.heap.get? t = some (tupO xs c)) (hx : xs.toArray[i]? = none)
    (h : ∀ h' e, Heap.ExtBut it s.heap h' → (∃ o, h'.get? e = some o ∧ o.cls = .type "StopIteration") → E (.ref e) { s with heap := h' }) : wpAny (model prog w) A (Builtin.SmallTypes.nextOf (.ref it)) Q E s := by
  have T : s.TypeIs (.ref it) "tuple_iterator" := ⟨_, h1, rfl⟩
  exact wpAny_bind (wpAny_callSpecial?_slot T PySem.F.slot_tuple_iterator_next (call_meets PySem.F.slot_tuple_iterator_next T PySem.F.entry_tuple_iterator_next (PySem.F.args_tuple_iterator_next_1 _) (tup_stop it t i xs c hx) ⟨hh, h1, h2, h⟩))
end
/-- the zip over two tuples' iterators at n and n + 1, its tuples at n + 2 and n + 3, itself at n + 4; f: what it keeps of the tuple last handed out -/
abbrev zObj (n : Nat) (f : Value) : Obj := { cls := .type "zip", dict := none, data := .fields #[f, .bool false, .bool false, .ref (n + 2), .ref (n + 3)], slots := #[] }
abbrev two (a b : Value) : Obj := { cls := .type "tuple", data := .seq #[a, b] }
structure ZAt (n : Nat) (l1 l2 : Addr) (f : Value) (i : Nat) (a b : Value) (h : Heap) : Prop where
  z : h.get? (n + 4) = some (zObj n f)
  its : h.get? (n + 2) = some (two (.ref n) (.ref (n + 1)))
  out : h.get? (n + 3) = some (two a b)
  one : h.get? n = some (tIt l1 i)
  other : h.get? (n + 1) = some (tIt l2 i)
theorem heap_cut {M : Model} {A : Around} {α : Type} {E : Value → Shared → Prop} {Q : α → Shared → Prop} {t : Sem α} {h : Heap} {g : Array GenState} {d : Drawn} {X : Nat} {o : OsState} (P : Heap → Prop) (hP : P h) (k : ∀ h', P h' → wpAny M A t Q E ⟨h', g, d, X, o⟩) : wpAny M A t Q E ⟨h, g, d, X, o⟩ := k h hP
/-- how far the heap h of a zip's next has come from hp: the zip holds f, its tuple a and b, its iterators stand at i and j; all else stands -/
structure ZMid (n : Nat) (l1 l2 : Addr) (f : Value) (i j : Nat) (a b : Value) (hp h : Heap) : Prop where
  z : h.get? (n + 4) = some (zObj n f)
  out : h.get? (n + 3) = some (two a b)
  one : h.get? n = some (tIt l1 i)
  other : h.get? (n + 1) = some (tIt l2 j)
  rest : ∀ c o, c ≠ n → c ≠ n + 1 → c ≠ n + 3 → c ≠ n + 4 → hp.get? c = some o → h.get? c = some o
theorem zip_next {n : Nat} {l1 l2 : Addr} {i c1 c2 : Nat} {xs ys : List Value} {a b x y : Value} (k1 : @LT.lt Nat _ l1 n) (k2 : @LT.lt Nat _ l2 n) (hx : xs.toArray[i]? = some x) (hy : ys.toArray[i]? = some y) :
    Meets (Builtin.«zip.__next__» ⟨[.ref (n + 4)], []⟩) (fun _ R s => ZMid n l1 l2 .none i i a b s.heap s.heap ∧ s.heap.get? (n + 2) = some (two (.ref n) (.ref (n + 1))) ∧ s.heap.get? l1 = some (tupO xs c1) ∧ s.heap.get? l2 = some (tupO ys c2) ∧
      ∀ h', ZMid n l1 l2 (rawInt s.heap.objs.size) (i + 1) (i + 1) x y s.heap h' → h'.get? s.heap.objs.size = some (two x y) → R (.ok (.ret (.ref s.heap.objs.size))) { s with heap := h' }) :=
  .of_wp fun prog w A R ⟨hp, g, d, tk, os⟩ ⟨⟨g1, g3, g4, g5, _⟩, g2, t1, t2, h⟩ => by
    dsimp only at g1 g2 g3 g4 g5 t1 t2 h
    have w0 : (n + 4 : Addr) ≠ n := neN (by omega)
    have w1 : (n + 4 : Addr) ≠ n + 1 := neN (by omega)
    have w3 : (n + 4 : Addr) ≠ n + 3 := neN (by omega)
    have v0 : (n + 3 : Addr) ≠ n := neN (by omega)
    have v1 : (n + 3 : Addr) ≠ n + 1 := neN (by omega)
    have o1 : (n : Addr) ≠ n + 1 := neN (by omega)
    have p1 : ∀ k : Nat, (l1 : Addr) ≠ n + k := fun k => neN (by omega)
    have p2 : ∀ k : Nat, (l2 : Addr) ≠ n + k := fun k => neN (by omega)
    repeat (first
      | ((with_reducible show wpAny _ _ (Sem.onRaise _ _) _ _ _); refine wpAny_onRaise ?_)
      | ((with_reducible show wpAny _ _ (Builtin.SmallTypes.nextOf _) _ _ _); refine nextT (i := i) (xs := xs) (c := c1) (t := l1) (Heap.get?_update_of_ne _ w0 g4) (Heap.get?_update_of_ne _ (Ne.symm (p1 4)) t1) hx ?_)
      | ((with_reducible show wpAny _ _ (updateSeq _ _) _ _ _); refine wpAny_updateSeq (o := two a b) (xs := #[a, b]) (n := 0) (Heap.get?_update_of_ne _ v0.symm (Heap.get?_update_of_ne _ w3 g3)) rfl ?_)
      | ((fail_if_success (with_reducible show wpAny _ _ (letGo _ _) _ _ _)); (fail_if_success (with_reducible show wpAny _ _ (updateSeq _ _) _ _ _)); (fail_if_success (with_reducible show wpAny _ _ (Builtin.SmallTypes.nextOf _) _ _ _)); wp_step))
    refine heap_cut (fun H => ZMid n l1 l2 .ellipsis (i + 1) i x b hp H ∧ H.objs.size = hp.objs.size) ⟨⟨?_, ?_, ?_, ?_, ?_⟩, ?_⟩ ?_
    · exact Heap.get?_update_of_ne _ w3.symm (Heap.get?_update_of_ne _ w0.symm (Heap.get?_update_self _ g1 rfl))
    · exact Heap.get?_update_self _ (Heap.get?_update_of_ne _ v0.symm (Heap.get?_update_of_ne _ w3 g3)) rfl
    · exact Heap.get?_update_of_ne _ v0 (Heap.get?_update_self _ (Heap.get?_update_of_ne _ w0 g4) rfl)
    · exact Heap.get?_update_of_ne _ v1 (Heap.get?_update_of_ne _ o1 (Heap.get?_update_of_ne _ w1 g5))
    · exact fun c o c0 _ c3 c4 e => Heap.get?_update_of_ne _ c3.symm (Heap.get?_update_of_ne _ c0.symm (Heap.get?_update_of_ne _ c4.symm e))
    · simp only [Heap.size_after_update]
    rintro hq ⟨⟨z1, z3, z4, z5, zr⟩, zs⟩
    dsimp only
    refine wpAny_letGo ?_
    repeat (first
      | ((with_reducible show wpAny _ _ (Sem.onRaise _ _) _ _ _); refine wpAny_onRaise ?_)
      | ((with_reducible show wpAny _ _ (Builtin.SmallTypes.nextOf _) _ _ _); refine nextT (i := i) (xs := ys) (c := c2) (t := l2) z5 (zr _ _ (neN (by omega)) (p2 1) (p2 3) (p2 4) t2) hy ?_)
      | ((with_reducible show wpAny _ _ (updateSeq _ _) _ _ _); refine wpAny_updateSeq (o := two x b) (xs := #[x, b]) (n := 0) (Heap.get?_update_of_ne _ v1.symm z3) rfl ?_)
      | ((with_reducible show wpAny _ _ (load (n + 3)) _ _ _); refine wpAny_load' (o := two x b) (Heap.get?_update_of_ne _ v1.symm z3) ?_)
      | ((fail_if_success (with_reducible show wpAny _ _ (letGo _ _) _ _ _)); (fail_if_success (with_reducible show wpAny _ _ (updateSeq _ _) _ _ _)); (fail_if_success (with_reducible show wpAny _ _ (Builtin.SmallTypes.nextOf _) _ _ _)); wp_step))
    refine heap_cut (fun H => ZMid n l1 l2 .ellipsis (i + 1) (i + 1) x y hp H ∧ H.objs.size = hp.objs.size) ⟨⟨?_, ?_, ?_, ?_, ?_⟩, ?_⟩ ?_
    · exact Heap.get?_update_of_ne _ w3.symm (Heap.get?_update_of_ne _ w1.symm z1)
    · exact Heap.get?_update_self _ (Heap.get?_update_of_ne _ v1.symm z3) rfl
    · exact Heap.get?_update_of_ne _ v0 (Heap.get?_update_of_ne _ o1.symm z4)
    · exact Heap.get?_update_of_ne _ v1 (Heap.get?_update_self _ z5 rfl)
    · exact fun c o c0 c1 c3 c4 e => Heap.get?_update_of_ne _ c3.symm (Heap.get?_update_of_ne _ c1.symm (zr c o c0 c1 c3 c4 e))
    · simp only [Heap.size_after_update]; exact zs
    dsimp only
    clear z1 z3 z4 z5 zr zs hq
    rintro hq ⟨⟨z1, z3, z4, z5, zr⟩, zs⟩
    refine wpAny_letGo ?_
    repeat (first
      | ((with_reducible show wpAny _ _ (load (n + 3)) _ _ _); refine wpAny_load' z3 ?_)
      | ((with_reducible show wpAny _ _ (newTuple _) _ _ _); refine wpAny_newTuple ?_)
      | ((fail_if_success (with_reducible show wpAny _ _ (newTuple _) _ _ _)); (fail_if_success (with_reducible show wpAny _ _ (Builtin.SmallTypes.ownedTupleHandOut _ _) _ _ _)); wp_step))
    dsimp only
    have y1 : (hq.push { cls := .type "tuple", data := .seq #[x, y] }).get? (n + 4) = some (zObj n .ellipsis) := Heap.get?_push_of_some _ z1
    unfold Builtin.SmallTypes.ownedTupleHandOut
    refine wpAny_bind (wpAny_setField y1 rfl (by simp) ?_)
    refine wpAny_setField (Heap.get?_update_self _ y1 rfl) rfl (by simp) (wpAny_pure ⟨_, rfl, ?_⟩)
    have lt : ∀ {c : Addr} {o : Obj}, hq.get? c = some o → (n + 4 : Addr) ≠ c → ∀ f k, (((hq.push { cls := .type "tuple", data := .seq #[x, y] }).update (n + 4) f).update (n + 4) k).get? c = some o := fun e hc f k =>
      Heap.get?_update_of_ne _ hc (Heap.get?_update_of_ne _ hc (Heap.get?_push_of_some _ e))
    have hn : (n + 4 : Addr) ≠ hq.objs.size := Nat.ne_of_lt (Heap.lt_size z1)
    rw [← zs] at h
    refine h _ ⟨Heap.get?_update_self _ (Heap.get?_update_self _ y1 rfl) rfl, lt z3 w3 _ _, lt z4 w0 _ _, lt z5 w1 _ _, fun c o c0 c1 c3 c4 e => lt (zr c o c0 c1 c3 c4 e) c4.symm _ _⟩ ?_
    exact Heap.get?_update_of_ne _ hn (Heap.get?_update_of_ne _ hn (Heap.get?_push_size _ rfl))
theorem zip_over {n : Nat} {l1 l2 : Addr} {i j c1 : Nat} {xs : List Value} {a b : Value} (k1 : @LT.lt Nat _ l1 n) (hx : xs.toArray[i]? = none) :
    Meets (Builtin.«zip.__next__» ⟨[.ref (n + 4)], []⟩) (fun A R s => A.handled = none ∧ ZMid n l1 l2 .none i j a b s.heap s.heap ∧ s.heap.get? (n + 2) = some (two (.ref n) (.ref (n + 1))) ∧ s.heap.get? l1 = some (tupO xs c1) ∧
      ∀ h' e, (∀ c o, c ≠ n → c ≠ n + 4 → s.heap.get? c = some o → h'.get? c = some o) → (∃ o, h'.get? e = some o ∧ o.cls = .type "StopIteration") → R (.error (.ref e)) { s with heap := h' }) :=
  .of_wp fun prog w A R ⟨hp, g, d, tk, os⟩ ⟨hh, ⟨g1, g3, g4, g5, _⟩, g2, t1, h⟩ => by
    dsimp only at g1 g2 g3 g4 g5 t1 h
    have w0 : (n + 4 : Addr) ≠ n := neN (by omega)
    have p1 : (l1 : Addr) ≠ n + 4 := neN (by omega)
    repeat (first
      | ((with_reducible show wpAny _ _ (Sem.onRaise _ _) _ _ _); refine wpAny_onRaise ?_)
      | ((fail_if_success (with_reducible show wpAny _ _ (Builtin.SmallTypes.nextOf _) _ _ _)); wp_step))
    refine stopT (i := i) (xs := xs) (c := c1) (t := l1) hh (Heap.get?_update_of_ne _ w0 g4) (Heap.get?_update_of_ne _ p1.symm t1) hx fun h' e hs ⟨o, ho, hc⟩ => ?_
    dsimp only at hs
    have y1 : h'.get? (n + 4) = some (zObj n .ellipsis) := hs _ _ w0 (Heap.get?_update_self _ g1 rfl)
    have he : (n + 4 : Addr) ≠ e := by
      rintro rfl
      rw [y1] at ho
      cases ho
      simp at hc
    exact wpAny_setField y1 rfl (by simp) (h _ e (fun c o c0 c4 x => Heap.get?_update_of_ne _ c4.symm (hs c o c0 (Heap.get?_update_of_ne _ c4.symm x))) ⟨o, Heap.get?_update_of_ne _ he ho, hc⟩)
section
variable {prog : Program} {w : World} {A : Around} {E : Value → Shared → Prop} {s : Shared} {n : Nat} {l1 l2 : Addr} {i c1 c2 : Nat} {xs ys : List Value}
/-- the zip between two turns, i of them done -/
structure ZSt (n : Nat) (l1 l2 : Addr) (i : Nat) (h : Heap) : Prop where
  mid : ∃ a b, ZMid n l1 l2 .none i i a b h h
  its : h.get? (n + 2) = some (two (.ref n) (.ref (n + 1)))
theorem ZSt.kept {h h' : Heap} (Z : ZSt n l1 l2 i h) (k : ∀ c o, @LE.le Nat _ n c → @LT.lt Nat _ c (n + 5) → h.get? c = some o → h'.get? c = some o) : ZSt n l1 l2 i h' := by
  obtain ⟨⟨a, b, m1, m2, m3, m4, -⟩, m5⟩ := Z
  exact ⟨⟨a, b, k _ _ (by omega) (by omega) m1, k _ _ (by omega) (by omega) m2, k _ _ (by omega) (by omega) m3, k _ _ (by omega) (by omega) m4, fun _ _ _ _ _ _ e => e⟩, k _ _ (by omega) (by omega) m5⟩
theorem zip_item {x y : Value} {Q : Option Value → Shared → Prop} (Z : ZSt n l1 l2 i s.heap) (k1 : @LT.lt Nat _ l1 n) (k2 : @LT.lt Nat _ l2 n) (t1 : s.heap.get? l1 = some (tupO xs c1)) (t2 : s.heap.get? l2 = some (tupO ys c2)) (hx : xs.toArray[i]? = some x) (hy : ys.toArray[i]? = some y)
    (h : ∀ h', ZMid n l1 l2 (rawInt s.heap.objs.size) (i + 1) (i + 1) x y s.heap h' → h'.get? s.heap.objs.size = some (two x y) → Q (some (.ref s.heap.objs.size)) { s with heap := h' }) : wpAny (model prog w) A (pyNext (.ref (n + 4))) Q E s := by
  obtain ⟨⟨a, b, m⟩, hi⟩ := Z
  have T : s.TypeIs (.ref (n + 4)) "zip" := ⟨_, m.z, rfl⟩
  exact wpAny_bind (wpAny_attempt (wpAny_callSpecial?_slot T PySem.F.slot_zip_next (call_meets PySem.F.slot_zip_next T PySem.F.entry_zip_next (PySem.F.args_zip_next_1 _) (zip_next k1 k2 hx hy) ⟨m, hi, t1, t2, fun h' m' e => wpAny_pure (h h' m' e)⟩)))
theorem zip_done {Q : Option Value → Shared → Prop} (hh : A.handled = none) (Z : ZSt n l1 l2 i s.heap) (k1 : @LT.lt Nat _ l1 n) (t1 : s.heap.get? l1 = some (tupO xs c1)) (hx : xs.toArray[i]? = none)
    (h : ∀ h', (∀ c o, c ≠ n → c ≠ n + 4 → s.heap.get? c = some o → h'.get? c = some o) → Q none { s with heap := h' }) : wpAny (model prog w) A (pyNext (.ref (n + 4))) Q E s := by
  obtain ⟨⟨a, b, m⟩, hi⟩ := Z
  have T : s.TypeIs (.ref (n + 4)) "zip" := ⟨_, m.z, rfl⟩
  exact wpAny_bind (wpAny_attempt (wpAny_callSpecial?_slot T PySem.F.slot_zip_next (call_meets PySem.F.slot_zip_next T PySem.F.entry_zip_next (PySem.F.args_zip_next_1 _) (zip_over k1 hx) ⟨hh, m, hi, t1, fun h' e k ⟨o, ho, hc⟩ =>
    wpAny_bind (wpAny_isInstance (T := "StopIteration") (b := true) ⟨o, ho, hc⟩ isSubtype_stop (wpAny_pure (h h' k)))⟩)))
end
theorem ZSt.z {n : Nat} {l1 l2 : Addr} {i : Nat} {h : Heap} (Z : ZSt n l1 l2 i h) : h.get? (n + 4) = some (zObj n .none) := by
  obtain ⟨⟨_, _, m⟩, _⟩ := Z
  exact m.z
abbrev zt1 (h : Heap) (l1 : Addr) : Heap := h.push { cls := .type "tuple_iterator", data := .fields #[.ref l1, .int 0 0] }
abbrev zt2 (h : Heap) (l1 l2 : Addr) : Heap := (zt1 h l1).push { cls := .type "tuple_iterator", data := .fields #[.ref l2, .int 0 0] }
abbrev zt3 (h : Heap) (l1 l2 : Addr) : Heap := (zt2 h l1 l2).push { cls := .type "tuple", data := .seq #[.ref h.objs.size, .ref (zt1 h l1).objs.size] }
abbrev zt4 (h : Heap) (l1 l2 : Addr) : Heap := (zt3 h l1 l2).push { cls := .type "tuple", data := .seq #[.none, .none] }
abbrev zt5 (h : Heap) (l1 l2 : Addr) : Heap := (zt4 h l1 l2).push { cls := .type "zip", data := .fields #[.none, .bool false, .bool false, .ref (zt2 h l1 l2).objs.size, .ref (zt3 h l1 l2).objs.size] }
theorem meets_zipT (l1 l2 : Addr) (xs ys : Array Value) :
    Meets (Builtin.«zip.__new__» ⟨[.type "zip", .ref l1, .ref l2], []⟩) (fun _ R s => s.heap.IsTuple l1 xs ∧ s.heap.IsTuple l2 ys ∧
      R (.ok (.ret (.ref (zt4 s.heap l1 l2).objs.size))) { s with heap := zt5 s.heap l1 l2 }) :=
  .of_wp fun prog w A R s h => by
    obtain ⟨hp, g, d, tk, os⟩ := s; obtain ⟨hl1, hl2, h⟩ := h
    have hsub := sub_zip
    have hL1 : Heap.IsTuple (Shared.heap ⟨hp, g, d, tk, os⟩) l1 xs := hl1
    have hL2 : Heap.IsTuple (Shared.heap ⟨hp.push { cls := .type "tuple_iterator", data := .fields #[.ref l1, .int 0 0] }, g, d, tk, os⟩) l2 ys := Heap.IsTuple.push hl2 _
    wp_walk using wpAny_pyIter_tuple hL1, wpAny_pyIter_tuple hL2
    exact ⟨_, rfl, h⟩
section
variable {prog : Program} {w : World} {A : Around} {E : Value → Shared → Prop} {s : Shared}
theorem call_zipT {l1 l2 : Addr} {xs ys : Array Value} {Q : Value → Shared → Prop} (hl1 : s.heap.IsTuple l1 xs) (hl2 : s.heap.IsTuple l2 ys)
    (h : Q (.ref (s.heap.objs.size + 4)) { s with heap := zt5 s.heap l1 l2 }) : wpAny (model prog w) A (call (.type "zip") [.ref l1, .ref l2]) Q E s := by
  refine callType_new PySem.F.called_zip (by decide) (PySem.F.typeCall_zip_2 _ _) (PySem.F.newCall_zip_2 _ _) (fun obj => PySem.F.args_object_init_3 obj _ _) PySem.F.entry_zip_new
    (meets_zipT l1 l2 xs ys) ⟨hl1, hl2, ?_⟩
  have z4 : (zt4 s.heap l1 l2).objs.size = s.heap.objs.size + 4 := by simp [zt4, zt3, zt2, zt1, Heap.size_push]
  have g5 : (zt5 s.heap l1 l2).get? (zt4 s.heap l1 l2).objs.size = some _ := Heap.get?_push_size _ rfl
  show _ ∧ _
  rw [z4] at g5 ⊢
  exact ⟨⟨_, g5, rfl⟩, h⟩
end
abbrev ZLed (z C D TI TO i1 i2 : Addr) (oz oC oTI oTO o1 o2 : Obj) (ys : List Value) (news : Ledger) : Ledger :=
  (z, oz) :: (C, oC) :: (D, LCg.lst ys) :: (TI, oTI) :: (TO, oTO) :: (i1, o1) :: (i2, o2) :: news
/-- an element of the comprehension is reckoned: an int; all that stood stands -/
def ZEnd (h₀ : Heap) (L : Addr) (m : Names) (all : Ledger) (s₁ : Shared) (r : Int) (y : Value) (s₂ : Shared) : Prop :=
  ∃ (t : Tok) (h' : Heap) (tk : Nat), y = .int r t ∧ s₂ = { s₁ with heap := h', toks := tk } ∧ Fr h₀ L h' m ∧ News h₀ L h' all
theorem ZEnd.intro {h₀ : Heap} {L : Addr} {m : Names} {all all' : Ledger} {s₁ : Shared} {r x : Int} {t : Tok} {h' : Heap} {tk : Nat} (e : x = r) (F : Fr h₀ L h' m) (N : News h₀ L h' all') (hs : ∀ p ∈ all, p ∈ all') :
    ZEnd h₀ L m all s₁ r (.int x t) { s₁ with heap := h', toks := tk } := by
  subst e
  exact ⟨t, h', tk, rfl, rfl, F, cb_drop N hs⟩
def ZElt (prog : Program) (w : World) (A : Around) (h₀ : Heap) (L : Addr) (m : Names) (env : Env) (elt : PySem.Expr) (a b : Str) (scope : Scope) (cl : List (Str × Addr)) (x y : Value) (r : Int) (ys : List Value) (news : Ledger) (s : Shared) : Prop :=
  ∀ (z C D TI TO i1 i2 : Addr) (oz oC oTI oTO o1 o2 : Obj) (m₂ : Names) (h : Heap) (tk : Nat) (E' : Value → Shared → Prop),
    LCg.NsObj oC m₂ → m₂ a = some x → m₂ b = some y → Fr h₀ L h m → News h₀ L h (ZLed z C D TI TO i1 i2 oz oC oTI oTO o1 o2 ys news) →
    wpAny (model prog w) A (eval elt (compEnvC scope cl C env)) (ZEnd h₀ L m (ZLed z C D TI TO i1 i2 oz oC oTI oTO o1 o2 ys news) { s with heap := h, toks := tk } r) E' { s with heap := h, toks := tk }
theorem fr_under {h₀ h h' : Heap} {L : Addr} {m : Names} {n : Nat} (F : Fr h₀ L h m) (hL : L < n) (hk : ∀ b o, b < n → h.get? b = some o → h'.get? b = some o) : Fr h₀ L h' m :=
  ⟨F.ns.at' fun o e => hk L o hL e, fun b o e => hk b o (Nat.lt_of_lt_of_le (Heap.lt_size e) (Nat.le_trans F.above (Nat.le_of_lt hL))) (F.keep b o e), F.above⟩
section
variable {prog : Program} {w : World} {A : Around} {s : Shared} {h₀ : Heap} {L : Addr} {m : Names} {env : Env}
theorem zip_turn {n : Nat} {l1 l2 : Addr} {c1 c2 : Nat} {xs ys : List Value} {x y : Value} {r : Int} {vs : List Value} {news : Ledger} {elt : PySem.Expr} {a b : Str} {pa pb tp : Pos} {kk : Nat} {scope : Scope} {cl : List (Str × Addr)} {m' : Names} {h : Heap} {tk i : Nat} {NX P : Shared → Prop} {E : Value → Shared → Prop}
    (hh : A.handled = none) (hl1 : @LT.lt Nat _ l1 n) (hl2 : @LT.lt Nat _ l2 n) (hLn : @LT.lt Nat _ L n) (hnews : ∀ p ∈ news, @LT.lt Nat _ p.1 n) (hT1 : ∀ h, News h₀ L h news → h.get? l1 = some (tupO xs c1)) (hT2 : ∀ h, News h₀ L h news → h.get? l2 = some (tupO ys c2)) (hx : xs.toArray[i]? = some x) (hy : ys.toArray[i]? = some y)
    (hkind : scope.kind = .function) (hxa : scope.names.lookup a = some .local) (hxb : scope.names.lookup b = some .local) (hab : ¬ a = b) (hvs : vs.length ≤ 1000)
    (e : ZElt prog w A h₀ L m env elt a b scope cl x y r vs news s)
    (st : ZSt n l1 l2 i h) (F : Fr h₀ L h m) (hC : h.Ns (n + 6) m') (N : News h₀ L h ((n + 5, LCg.lst vs) :: news))
    (K : ∀ (h' : Heap) (tk' : Nat) (t : Tok) (m'' : Names), ZSt n l1 l2 (i + 1) h' → Fr h₀ L h' m → h'.Ns (n + 6) m'' → News h₀ L h' ((n + 5, LCg.lst (vs ++ [.int r t])) :: news) → P { s with heap := h', toks := tk' }) :
    wpAny (model prog w) A (pyNext (.ref (n + 4))) (fun r s₁ => match r with
      | none => NX s₁
      | some v => wpAny (model prog w) A (letOwnedTupleGo (.Tuple [.Name a pa, .Name b pb] kk tp) (.ref (n + 4)) v) (fun _ s₀ => wpAny (model prog w) A (assign (.Tuple [.Name a pa, .Name b pb] kk tp) (compEnvC scope cl (n + 6) env) v) (fun _ s₂ =>
          wpAny (model prog w) A (eval elt (compEnvC scope cl (n + 6) env)) (fun x s₄ =>
            wpAny (model prog w) A (call (.builtin "list.append") [.ref (n + 5), x]) (fun _ s₅ => P s₅) E s₄) E s₂) E s₀) E s₁) E { s with heap := h, toks := tk } := by
  have hh₀ : ∀ c, n ≤ c → h₀.get? c = none := fun c hc => Heap.get?_none_of_le (Nat.le_trans F.above (Nat.le_trans (Nat.le_of_lt hLn) hc))
  have N' : News h₀ L h news := fun p hp => N p (List.mem_cons_of_mem _ hp)
  refine zip_item st hl1 hl2 (hT1 _ N') (hT2 _ N') hx hy fun h₂ m₂ e₂ => ?_
  refine wpAny_letOwnedTupleGo_zip (z := n + 4) (TI := n + 2) (TO := n + 3) (T := h.objs.size) m₂.z fun h₃ hz s₃ => ?_
  have hT₃ : h₃.IsTuple h.objs.size #[x, y] := ⟨_, s₃.extBut _ _ (Nat.ne_of_gt (Heap.lt_size st.z)) e₂, rfl, _, rfl⟩
  have up₃ : ∀ c o, c ≠ n + 4 → c ≠ n + 3 → c ≠ n → c ≠ n + 1 → h.get? c = some o → h₃.get? c = some o := fun c o a1 a2 a3 a4 e => s₃.extBut c o a1 (m₂.rest c o a3 a4 a2 a1 e)
  have hTI : h₃.get? (n + 2) = some (two (.ref n) (.ref (n + 1))) := up₃ _ _ (neN (by omega)) (neN (by omega)) (neN (by omega)) (neN (by omega)) st.its
  have hTO : h₃.get? (n + 3) = some (two x y) := s₃.extBut _ _ (neN (by omega)) m₂.out
  have e1 : h₃.get? n = some (tIt l1 (i + 1)) := s₃.extBut _ _ (neN (by omega)) m₂.one
  have e2 : h₃.get? (n + 1) = some (tIt l2 (i + 1)) := s₃.extBut _ _ (neN (by omega)) m₂.other
  refine kcp_assign (env := compEnvC scope cl (n + 6) env) hh hT₃ (lookup_relabel_local hxa) (lookup_relabel_local hxb) (by simp [compEnvC, relabel, hkind])
    (hC.at' fun o e => up₃ _ o (neN (by omega)) (neN (by omega)) (neN (by omega)) (neN (by omega)) e) fun h₄ tk₄ hn₄ hs₄ => ?_
  replace hn₄ : h₄.Ns (n + 6) _ := hn₄
  have up₄ : ∀ c o, c ≠ n + 6 → h₃.get? c = some o → h₄.get? c = some o := hs₄
  have up : ∀ c o, c ≠ n + 4 → c ≠ n + 3 → c ≠ n → c ≠ n + 1 → c ≠ n + 6 → h.get? c = some o → h₄.get? c = some o := fun c o a1 a2 a3 a4 a5 e => up₄ c o a5 (up₃ c o a1 a2 a3 a4 e)
  have upn : ∀ c o, c < n → h.get? c = some o → h₄.get? c = some o := fun c o hc e => up c o (neN (by omega)) (neN (by omega)) (neN (by omega)) (neN (by omega)) (neN (by omega)) e
  obtain ⟨oC, heC, hoC⟩ := LCg.ns_obj hn₄
  have F₄ : Fr h₀ L h₄ m := fr_under F hLn upn
  have own : ∀ {c : Nat} {o : Obj}, n ≤ c → h₄.get? c = some o → h₄.get? c = some o ∧ c ≠ L ∧ h₀.get? c = none := fun hc e => ⟨e, neN (by omega), hh₀ _ hc⟩
  have N₄ : News h₀ L h₄ (ZLed (n + 4) (n + 6) (n + 5) (n + 2) (n + 3) n (n + 1) (zObj n .none) oC (two (.ref n) (.ref (n + 1))) (two x y) (tIt l1 (i + 1)) (tIt l2 (i + 1)) vs news) := by
    intro q hq
    rcases List.mem_cons.mp hq with rfl | hq
    · exact own (by omega) (up₄ _ _ (neN (by omega)) hz)
    rcases List.mem_cons.mp hq with rfl | hq
    · exact own (by omega) heC
    rcases List.mem_cons.mp hq with rfl | hq
    · exact own (by omega) (up _ _ (neN (by omega)) (neN (by omega)) (neN (by omega)) (neN (by omega)) (neN (by omega)) (N _ List.mem_cons_self).1)
    rcases List.mem_cons.mp hq with rfl | hq
    · exact own (by omega) (up₄ _ _ (neN (by omega)) hTI)
    rcases List.mem_cons.mp hq with rfl | hq
    · exact own (by omega) (up₄ _ _ (neN (by omega)) hTO)
    rcases List.mem_cons.mp hq with rfl | hq
    · exact own (by omega) (up₄ _ _ (neN (by omega)) e1)
    rcases List.mem_cons.mp hq with rfl | hq
    · exact own (by omega) (up₄ _ _ (neN (by omega)) e2)
    exact ⟨upn _ _ (hnews q hq) (N q (List.mem_cons_of_mem _ hq)).1, (N q (List.mem_cons_of_mem _ hq)).2⟩
  refine wpAny_mono (e _ _ _ _ _ _ _ _ _ _ _ _ _ _ h₄ _ _ hoC (by simp [hab]) (by simp) F₄ N₄) (fun y' s₅ h₅ => ?_) fun _ _ e => e
  obtain ⟨t, h₅, tk₅, rfl, rfl, F₅, N₅⟩ := h₅
  have g1 := (N₅ _ (.head _)).1
  have g2 := (N₅ _ (.tail _ (.head _))).1
  have g3 := (N₅ _ (.tail _ (.tail _ (.head _)))).1
  have g4 := (N₅ _ (.tail _ (.tail _ (.tail _ (.head _))))).1
  have g5 := (N₅ _ (.tail _ (.tail _ (.tail _ (.tail _ (.head _)))))).1
  have g6 := (N₅ _ (.tail _ (.tail _ (.tail _ (.tail _ (.tail _ (.head _))))))).1
  have g7 := (N₅ _ (.tail _ (.tail _ (.tail _ (.tail _ (.tail _ (.tail _ (.head _)))))))).1
  have g8 : News h₀ L h₅ news := fun p hp => N₅ p (.tail _ (.tail _ (.tail _ (.tail _ (.tail _ (.tail _ (.tail _ hp)))))))
  dsimp only at g1 g2 g3 g4 g5 g6 g7
  refine append_at (hsz := by show vs.toArray.size ≤ sizeLine; rw [List.size_toArray, sizeLine_eq]; omega) g3 fun h₆ hs₆ hD₆ => ?_
  have up₆ : ∀ c o, c ≠ n + 5 → h₅.get? c = some o → h₆.get? c = some o := fun c o hc e => hs₆.extBut c o hc e
  have N₆ : News h₀ L h₆ news := fun p hp => ⟨up₆ _ _ (neN (by have := hnews p hp; omega)) (g8 p hp).1, (g8 p hp).2⟩
  refine K h₆ tk₅ t _ ⟨⟨x, y, up₆ _ _ (neN (by omega)) g1, up₆ _ _ (neN (by omega)) g5, up₆ _ _ (neN (by omega)) g6, up₆ _ _ (neN (by omega)) g7, fun _ _ _ _ _ _ e => e⟩, up₆ _ _ (neN (by omega)) g4⟩
    (fr_under F₅ hLn fun c o hc e => up₆ c o (neN (by omega)) e) (hoC.ns (up₆ _ _ (neN (by omega)) g2)) ?_
  intro q hq
  rcases List.mem_cons.mp hq with rfl | hq
  · exact ⟨hD₆.trans (congrArg some (LCg.lst_snoc _ _)), neN (by omega), hh₀ _ (by omega)⟩
  · exact N₆ q hq
theorem zip_block {n : Nat} {l1 l2 : Addr} {c1 c2 : Nat} {v1 v2 w1 w2 : Value} {r1 r2 : Int} {news : Ledger} {elt iter : PySem.Expr} {a b : Str} {pa pb tp : Pos} {kk : Nat} {scope : Scope} {cl : List (Str × Addr)} {pos : Pos} {s₂ : Shared} {E : Value → Shared → Prop} {RR : Value → Addr → Result → Shared → Prop}
    (hh : A.handled = none) (hl1 : @LT.lt Nat _ l1 n) (hl2 : @LT.lt Nat _ l2 n) (hLn : @LT.lt Nat _ L n) (hnews : ∀ p ∈ news, @LT.lt Nat _ p.1 n) (hT1 : ∀ h, News h₀ L h news → h.get? l1 = some (tupO [v1, v2] c1)) (hT2 : ∀ h, News h₀ L h news → h.get? l2 = some (tupO [w1, w2] c2))
    (hcell : ∀ y ∈ scope.names, y.2 ≠ .cell) (hkind : scope.kind = .function) (hxa : scope.names.lookup a = some .local) (hxb : scope.names.lookup b = some .local) (hab : ¬ a = b)
    (hsz : s₂.heap.objs.size = n + 5) (st : ZSt n l1 l2 0 s₂.heap) (F : Fr h₀ L s₂.heap m) (N : News h₀ L s₂.heap news)
    (e1 : ZElt prog w A h₀ L m env elt a b scope cl v1 w1 r1 [] news s₂) (e2 : ∀ t, ZElt prog w A h₀ L m env elt a b scope cl v2 w2 r2 [.int r1 t] news s₂)
    (hRR : ∀ h tk m' t1 t2, Fr h₀ L h m → News h₀ L h ((n + 5, LCg.lst [.int r1 t1, .int r2 t2]) :: news) → h.Ns (n + 6) m' → RR (.ref (n + 5)) (n + 6) (.ok .next) { s₂ with heap := h, toks := tk }) :
    wpAny (model prog w) A (newList []) (fun acc s₃ => wpAny (model prog w) A (newFunctionEnv scope env.globals cl [] env.qual none .none (some env)) (fun cenv s₄ =>
      codeAny (model prog w) A (.compStart (.ListComp elt [⟨.Tuple [.Name a pa, .Name b pb] kk tp, iter, [], 0⟩] scope pos) 0 (.ref (n + 4)) acc { cenv with scope := relabel scope env }) (RR acc cenv.locals) s₄) E s₃) E s₂ := by
  refine wpAny_newObj_type (wpAny_newFunctionEnv hcell (by intro y hy; simp at hy) (fun h₁ hns₁ hsb₁ => ?_) hkind)
  dsimp only at hns₁ hsb₁ ⊢
  generalize hH2 : s₂.heap.push { cls := .type "list", dict := none, data := .seq ([] : List Value).toArray } = H2 at hns₁ hsb₁ ⊢
  have hC : H2.objs.size = n + 6 := by rw [← hH2, Heap.size_push, hsz]
  rw [hC] at hns₁ hsb₁ ⊢
  have old2 : ∀ c o, s₂.heap.get? c = some o → H2.get? c = some o := fun c o e => hH2 ▸ Heap.get?_push_of_some _ e
  have old : ∀ c o, s₂.heap.get? c = some o → h₁.get? c = some o := fun c o e =>
    hsb₁.extBut c o (neN (Nat.ne_of_lt (Nat.lt_of_lt_of_le (Heap.lt_size e) (by rw [hsz]; exact Nat.le_succ _)))) (Heap.get?_push_of_some _ (old2 c o e))
  have hacc : h₁.get? (n + 5) = some (LCg.lst []) := by
    refine hsb₁.extBut _ _ (neN (by omega)) (Heap.get?_push_of_some _ ?_)
    rw [← hH2, ← hsz]
    exact Heap.get?_push_size _ rfl
  rw [hsz]
  have st₁ : ZSt n l1 l2 0 h₁ := st.kept fun c o _ _ e => old c o e
  have F₁ : Fr h₀ L h₁ m := F.keeps old
  have hh₀ : ∀ c, n ≤ c → h₀.get? c = none := fun c hc => Heap.get?_none_of_le (Nat.le_trans F.above (Nat.le_trans (Nat.le_of_lt hLn) hc))
  have N₁ : News h₀ L h₁ ((n + 5, LCg.lst []) :: news) := by
    intro q hq
    rcases List.mem_cons.mp hq with rfl | hq
    · exact ⟨hacc, neN (by omega), hh₀ _ (by omega)⟩
    · exact N.grown old q hq
  have loop : ∀ s₃ : Shared, s₃ = { s₂ with heap := h₁, toks := s₂.toks + ([] : List (Str × Value)).length } →
      codeAny (model prog w) A (.compLoop (.ListComp elt [⟨.Tuple [.Name a pa, .Name b pb] kk tp, iter, [], 0⟩] scope pos) 0 (.ref (n + 4)) (.ref (n + 5)) (compEnvC scope cl (n + 6) env)) (RR (.ref (n + 5)) (n + 6)) s₃ := by
    rintro s₃ rfl
    refine kcp_loop
      (fun k s' => ∃ (h' : Heap) (tk : Nat) (vs : List Value) (m' : Names), s' = { s₂ with heap := h', toks := tk } ∧ ((k = 3 ∧ vs = [] ∧ ZSt n l1 l2 0 h') ∨ (k = 2 ∧ (∃ t, vs = [.int r1 t]) ∧ ZSt n l1 l2 1 h') ∨
        (k = 1 ∧ (∃ t1 t2, vs = [.int r1 t1, .int r2 t2]) ∧ ZSt n l1 l2 2 h')) ∧ Fr h₀ L h' m ∧ h'.Ns (n + 6) m' ∧ News h₀ L h' ((n + 5, LCg.lst vs) :: news)) ?_ 3
      ⟨h₁, _, [], _, rfl, .inl ⟨rfl, rfl, st₁⟩, F₁, hns₁, N₁⟩
    rintro k s' ⟨h', tk, vs, m', rfl, hk, F', hn', N'⟩
    rcases hk with ⟨rfl, rfl, st'⟩ | ⟨rfl, ⟨t, rfl⟩, st'⟩ | ⟨rfl, ⟨t1, t2, rfl⟩, st'⟩
    · exact zip_turn (i := 0) hh hl1 hl2 hLn hnews hT1 hT2 rfl rfl hkind hxa hxb hab (by decide) e1 st' F' hn' N' fun h₂ tk₂ t m₂ st₂ F₂ hn₂ N₂ =>
        ⟨2, by decide, h₂, tk₂, _, m₂, rfl, .inr (.inl ⟨rfl, ⟨t, rfl⟩, st₂⟩), F₂, hn₂, N₂⟩
    · exact zip_turn (i := 1) hh hl1 hl2 hLn hnews hT1 hT2 rfl rfl hkind hxa hxb hab (by show 1 ≤ 1000; decide) (e2 t) st' F' hn' N' fun h₂ tk₂ t' m₂ st₂ F₂ hn₂ N₂ =>
        ⟨1, by decide, h₂, tk₂, _, m₂, rfl, .inr (.inr ⟨rfl, ⟨t, t', rfl⟩, st₂⟩), F₂, hn₂, N₂⟩
    · refine zip_done hh st' hl1 (hT1 _ fun p hp => N' p (List.mem_cons_of_mem _ hp)) rfl fun h₂ hk₂ => ?_
      have up : ∀ c o, c ≠ n + 4 → c ≠ n + 3 → c ≠ n → c ≠ n + 1 → h'.get? c = some o → h₂.get? c = some o := fun c o a1 _ a3 _ e => hk₂ c o a3 a1 e
      have upn : ∀ c o, c < n → h'.get? c = some o → h₂.get? c = some o := fun c o hc e => up c o (neN (by omega)) (neN (by omega)) (neN (by omega)) (neN (by omega)) e
      refine hRR h₂ _ m' t1 t2 (fr_under F' hLn upn) ?_ (hn'.at' fun o e => up _ o (neN (by omega)) (neN (by omega)) (neN (by omega)) (neN (by omega)) e)
      intro q hq
      rcases List.mem_cons.mp hq with rfl | hq
      · exact ⟨up _ _ (neN (by omega)) (neN (by omega)) (neN (by omega)) (neN (by omega)) (N' _ List.mem_cons_self).1, (N' _ List.mem_cons_self).2⟩
      · exact ⟨upn _ _ (hnews q hq) (N' q (List.mem_cons_of_mem _ hq)).1, (N' q (List.mem_cons_of_mem _ hq)).2⟩
  exact codeAny_compStart_list (loop _ rfl) (wpAny_pyIter_zip (TI := n + 2) (TO := n + 3) st₁.z (loop _ rfl))
def ZSrc (prog : Program) (w : World) (A : Around) (h₀ : Heap) (L : Addr) (m : Names) (env : Env) (elt : PySem.Expr) (a b : Str) (scope : Scope) (cl : List (Str × Addr)) (Q : Value → Shared → Prop) (xv : Value) (s₁ : Shared) : Prop :=
  ∃ (n : Nat) (l1 l2 : Addr) (c1 c2 : Nat) (v1 v2 w1 w2 : Value) (r1 r2 : Int) (news : Ledger), xv = .ref (n + 4) ∧ A.handled = none ∧ @LT.lt Nat _ l1 n ∧ @LT.lt Nat _ l2 n ∧ @LT.lt Nat _ L n ∧ (∀ p ∈ news, @LT.lt Nat _ p.1 n) ∧ (∀ h, News h₀ L h news → h.get? l1 = some (tupO [v1, v2] c1)) ∧ (∀ h, News h₀ L h news → h.get? l2 = some (tupO [w1, w2] c2)) ∧
    s₁.heap.objs.size = n + 5 ∧ ZSt n l1 l2 0 s₁.heap ∧ Fr h₀ L s₁.heap m ∧ News h₀ L s₁.heap news ∧ ZElt prog w A h₀ L m env elt a b scope cl v1 w1 r1 [] news s₁ ∧ (∀ t, ZElt prog w A h₀ L m env elt a b scope cl v2 w2 r2 [.int r1 t] news s₁) ∧
    ∀ D t1 t2 h tk, Fr h₀ L h m → News h₀ L h ((D, listOf #[.int r1 t1, .int r2 t2] 2) :: news) → (∀ p ∈ news, p.1 < D) → Q (.ref D) { s₁ with heap := h, toks := tk }
theorem zip_src {l1 l2 : Addr} {v1 v2 w1 w2 : Value} {c1 c2 : Nat} {r1 r2 : Int} {news : Ledger} {elt : PySem.Expr} {a b : Str} {scope : Scope} {cl : List (Str × Addr)} {Q : Value → Shared → Prop} {E : Value → Shared → Prop}
    (hh : A.handled = none) (F : Fr h₀ L s.heap m) (N : News h₀ L s.heap news) (m1 : (l1, tupO [v1, v2] c1) ∈ news) (m2 : (l2, tupO [w1, w2] c2) ∈ news)
    (e1 : ZElt prog w A h₀ L m env elt a b scope cl v1 w1 r1 [] news s) (e2 : ∀ t, ZElt prog w A h₀ L m env elt a b scope cl v2 w2 r2 [.int r1 t] news s)
    (fin : ∀ D t1 t2 h tk, Fr h₀ L h m → News h₀ L h ((D, listOf #[.int r1 t1, .int r2 t2] 2) :: news) → (∀ p ∈ news, p.1 < D) → Q (.ref D) { s with heap := h, toks := tk }) :
    wpAny (model prog w) A (call (.type "zip") [.ref l1, .ref l2]) (ZSrc prog w A h₀ L m env elt a b scope cl Q) E s := by
  have t1 : ∀ h, News h₀ L h news → h.get? l1 = some (tupO [v1, v2] c1) := fun h N => (N _ m1).1
  have t2 : ∀ h, News h₀ L h news → h.get? l2 = some (tupO [w1, w2] c2) := fun h N => (N _ m2).1
  refine call_zipT ⟨_, t1 _ N, rfl, _, rfl⟩ ⟨_, t2 _ N, rfl, _, rfl⟩ ?_
  have up : ∀ c o, s.heap.get? c = some o → (zt5 s.heap l1 l2).get? c = some o := fun c o e =>
    Heap.get?_push_of_some _ (Heap.get?_push_of_some _ (Heap.get?_push_of_some _ (Heap.get?_push_of_some _ (Heap.get?_push_of_some _ e))))
  have z1 : (zt1 s.heap l1).objs.size = s.heap.objs.size + 1 := by simp [zt1, Heap.size_push]
  have z2 : (zt2 s.heap l1 l2).objs.size = s.heap.objs.size + 2 := by simp [zt2, zt1, Heap.size_push]
  have z3 : (zt3 s.heap l1 l2).objs.size = s.heap.objs.size + 3 := by simp [zt3, zt2, zt1, Heap.size_push]
  have z4 : (zt4 s.heap l1 l2).objs.size = s.heap.objs.size + 4 := by simp [zt4, zt3, zt2, zt1, Heap.size_push]
  have z5 : (zt5 s.heap l1 l2).objs.size = s.heap.objs.size + 5 := by simp [zt5, zt4, zt3, zt2, zt1, Heap.size_push]
  have N₁ : News h₀ L (zt5 s.heap l1 l2) news := N.grown up
  refine ⟨s.heap.objs.size, l1, l2, c1, c2, v1, v2, w1, w2, r1, r2, news, rfl, hh, Heap.lt_size (N _ m1).1, Heap.lt_size (N _ m2).1, F.ns.lt, fun p hp => Heap.lt_size (N p hp).1, t1, t2, z5, ?_, F.keeps up, N₁, e1, e2, fin⟩
  have g1 : (zt1 s.heap l1).get? s.heap.objs.size = some _ := Heap.get?_push_size _ rfl
  have g2 : (zt2 s.heap l1 l2).get? (zt1 s.heap l1).objs.size = some _ := Heap.get?_push_size _ rfl
  have g3 : (zt3 s.heap l1 l2).get? (zt2 s.heap l1 l2).objs.size = some _ := Heap.get?_push_size _ rfl
  have g4 : (zt4 s.heap l1 l2).get? (zt3 s.heap l1 l2).objs.size = some _ := Heap.get?_push_size _ rfl
  have g5 : (zt5 s.heap l1 l2).get? (zt4 s.heap l1 l2).objs.size = some _ := Heap.get?_push_size _ rfl
  rw [z1] at g2 g3
  rw [z2] at g3 g5
  rw [z3] at g4 g5
  rw [z4] at g5
  have p2 : ∀ c o, (zt1 s.heap l1).get? c = some o → (zt5 s.heap l1 l2).get? c = some o := fun c o e => Heap.get?_push_of_some _ (Heap.get?_push_of_some _ (Heap.get?_push_of_some _ (Heap.get?_push_of_some _ e)))
  have p3 : ∀ c o, (zt2 s.heap l1 l2).get? c = some o → (zt5 s.heap l1 l2).get? c = some o := fun c o e => Heap.get?_push_of_some _ (Heap.get?_push_of_some _ (Heap.get?_push_of_some _ e))
  have p4 : ∀ c o, (zt3 s.heap l1 l2).get? c = some o → (zt5 s.heap l1 l2).get? c = some o := fun c o e => Heap.get?_push_of_some _ (Heap.get?_push_of_some _ e)
  have p5 : ∀ c o, (zt4 s.heap l1 l2).get? c = some o → (zt5 s.heap l1 l2).get? c = some o := fun c o e => Heap.get?_push_of_some _ e
  exact ⟨⟨.none, .none, g5, p5 _ _ g4, p2 _ _ g1, p3 _ _ g2, fun _ _ _ _ _ _ e => e⟩, p4 _ _ g3⟩
theorem comp_zip {elt iter : PySem.Expr} {a b : Str} {pa pb tp : Pos} {kk : Nat} {scope : Scope} {cl : List (Str × Addr)} {pos : Pos} {E Q : Value → Shared → Prop} (_F₀ : Fr h₀ L s.heap m)
    (hclos : closureFor scope env = pure cl) (hcell : ∀ y ∈ scope.names, y.2 ≠ .cell) (hkind : scope.kind = .function)
    (hnames : ∀ y ∈ scope.names, y.2 = .local → scope.names.lookup y.1 = some .local) (hxa : scope.names.lookup a = some .local) (hxb : scope.names.lookup b = some .local) (hab : ¬ a = b)
    (h : wpAny (model prog w) A (eval iter env) (ZSrc prog w A h₀ L m env elt a b scope cl Q) E s)
    (hs : ∀ x, foldedSetIterable iter env x = pure x := by intro _; rfl) :
    wpAny (model prog w) A (eval (.ListComp elt [⟨.Tuple [.Name a pa, .Name b pb] kk tp, iter, [], 0⟩] scope pos) env) Q E s := by
  rw [eval_ListComp]
  refine wpAny_comprehension_free (use := none) rfl hs hclos hkind hnames (wpAny_mono h (fun xv s₁ h₁ => ?_) fun _ _ e => e)
  obtain ⟨n, l1, l2, c1, c2, v1, v2, w1, w2, r1, r2, news, rfl, hh, hl1, hl2, hLn, hnews, t1, t2, hsz, st, F, N, e1, e2, fin⟩ := h₁
  refine wpAny_pyIter_zip (TI := n + 2) (TO := n + 3) st.z ?_
  refine zip_block hh hl1 hl2 hLn hnews t1 t2 hcell hkind hxa hxb hab hsz st F N e1 e2 ?_
  intro h tk m' u1 u2 F' N' hn
  refine ⟨m', hn, fun h'' hs'' => fin (n + 5) u1 u2 h'' tk (fr_under F' hLn fun c o hc e => hs''.extBut c o (neN (by omega)) e) ?_ fun p hp => Nat.lt_of_lt_of_le (hnews p hp) (by omega)⟩
  intro q hq
  rcases List.mem_cons.mp hq with rfl | hq
  · exact ⟨hs''.extBut _ _ (neN (by omega)) (N' _ List.mem_cons_self).1, (N' _ List.mem_cons_self).2⟩
  · exact ⟨hs''.extBut _ _ (neN (by have := hnews q hq; omega)) (N' q (List.mem_cons_of_mem _ hq)).1, (N' q (List.mem_cons_of_mem _ hq)).2⟩
end
section
variable {prog : Program} {w : World} {A : Around} {s : Shared} {h₀ : Heap} {L : Addr} {m : Names} {env : Env}
theorem zip_srcF {k t : Nat} {l1 l2 : Addr} {a1 a2 b1 b2 : Tok} {c1 c2 : Nat} {news : Ledger} {elt : PySem.Expr} {a b : Str} {scope : Scope} {cl : List (Str × Addr)} {Q : Value → Shared → Prop} {E : Value → Shared → Prop} (hT : TurnF k t) (hlt : t + 1 < 2 * csz k)
    (hh : A.handled = none) (F : Fr h₀ L s.heap m) (N : News h₀ L s.heap news) (m1 : (l1, tupO [.int (tHx k (t + 1)) a1, .int (tHy k (t + 1)) a2] c1) ∈ news) (m2 : (l2, tupO [.int (tHx k t) b1, .int (tHy k t) b2] c2) ∈ news)
    (e1 : (0 ≤ tP k (t + 1) ∧ tP k (t + 1) < 2 ^ 10) → (0 ≤ tHx k (t + 1) ∧ tHx k (t + 1) < 2 ^ 20) → (0 ≤ tHx k t ∧ tHx k t < 2 ^ 20) → (0 ≤ tP k (t + 1) * tHx k (t + 1) ∧ tP k (t + 1) * tHx k (t + 1) < 2 ^ 40) → tP k (t + 1) * tHx k (t + 1) + tHx k t = tHx k (t + 2) →
      ZElt prog w A h₀ L m env elt a b scope cl (.int (tHx k (t + 1)) a1) (.int (tHx k t) b1) (tHx k (t + 2)) [] news s)
    (e2 : (0 ≤ tP k (t + 1) ∧ tP k (t + 1) < 2 ^ 10) → (0 ≤ tHy k (t + 1) ∧ tHy k (t + 1) < 2 ^ 20) → (0 ≤ tHy k t ∧ tHy k t < 2 ^ 20) → (0 ≤ tP k (t + 1) * tHy k (t + 1) ∧ tP k (t + 1) * tHy k (t + 1) < 2 ^ 40) → tP k (t + 1) * tHy k (t + 1) + tHy k t = tHy k (t + 2) →
      ∀ u, ZElt prog w A h₀ L m env elt a b scope cl (.int (tHy k (t + 1)) a2) (.int (tHy k t) b2) (tHy k (t + 2)) [.int (tHx k (t + 2)) u] news s)
    (fin : ∀ D t1 t2 h tk, Fr h₀ L h m → News h₀ L h ((D, listOf #[.int (tHx k (t + 2)) t1, .int (tHy k (t + 2)) t2] 2) :: news) → (∀ p ∈ news, p.1 < D) → Q (.ref D) { s with heap := h, toks := tk }) :
    wpAny (model prog w) A (call (.type "zip") [.ref l1, .ref l2]) (ZSrc prog w A h₀ L m env elt a b scope cl Q) E s :=
  zip_src hh F N m1 m2 (e1 ⟨hT.p1, hT.p2⟩ ⟨hT.g5, hT.g6⟩ ⟨hT.g1, hT.g2⟩ ⟨hT.g9, hT.g10⟩ (hT.fr hlt).1) (e2 ⟨hT.p1, hT.p2⟩ ⟨hT.g7, hT.g8⟩ ⟨hT.g3, hT.g4⟩ ⟨hT.g11, hT.g12⟩ (hT.fr hlt).2) fin
end
theorem rows70 : True := by
  k_with "eval ListComp" => (k_here; (with_reducible show wpAny _ _ (eval (PySem.Expr.ListComp _ [PySem.Comprehension.mk (PySem.Expr.Tuple _ _ _) (PySem.Expr.Call _ _ _ _) [] 0] _ _) _) _ _ _); k_dflt (refine comp_zip (by k_asm) (by with_unfolding_all rfl) (by decide) (by rfl) (by decide) (by rfl) (by rfl) (by decide) ?_))
  k_with "call type:zip" => (k_here; (with_reducible show wpAny _ _ (call (Value.type "zip") [Value.ref _, Value.ref _]) _ _ _); k_dflt (refine' zip_srcF ?q1q9 ?q2q9 ?q3q9 ?q4q9 ?q5q9 ?q6q9 ?q7q9 ?_ ?_ ?_; (case q1q9 => with_reducible assumption); (case q2q9 => with_reducible assumption); (case q3q9 => with_unfolding_all rfl); (case q4q9 => k_asm); (case q5q9 => k_asm); (case q6q9 => k_mem); (case q7q9 => k_mem)); (intro ze1 ze2 ze3 ze4 ze5; unfold ZElt; intro z9 C9 D9 TI9 TO9 i9 j9 oz9 oC9 oTI9 oTO9 o9 p9 m9 h9 tk9 E9 hC9 ha9 hb9 F9 N9; (dsimp only [ZLed] at N9 ⊢); (try k_fold)); rotate_left; (intro ze1 ze2 ze3 ze4 ze5 u9; unfold ZElt; intro z9 C9 D9 TI9 TO9 i9 j9 oz9 oC9 oTI9 oTO9 o9 p9 m9 h9 tk9 E9 hC9 ha9 hb9 F9 N9; (dsimp only [ZLed] at N9 ⊢); (try k_fold)); rotate_left; (intro D9 t9 u9 h9 tk9 F9 N9 l9; (try k_lt l9); (try k_sweep); (try k_fold)); rotate_left)
  k_with "ZEnd" => (with_unfolding_all refine' ZEnd.intro ?eq9 ?Fq9 ?Nq9 ?Sq9; (case eq9 => with_reducible assumption); (case Fq9 => k_asm); (case Nq9 => assumption); (case Sq9 => walk_at "my sub"))
  trivial
theorem partsL_succ (k t : Nat) : partsL k (t + 1) = partsL k t ++ [tP k (t + 1)] := by
  unfold partsL
  rw [List.range_succ, List.map_append]
  rfl
theorem toldL_succ (k t : Nat) : toldL k (t + 1) = toldL k t ++ [tT k t] := by
  unfold toldL
  rw [List.range_succ, List.map_append]
  rfl
theorem ltmp_ne {z : Str} (h : LTmp.contains z = false) : z ≠ Str.ofString "added" ∧ z ≠ Str.ofString "below" ∧ z ≠ Str.ofString "ahead" ∧ z ≠ Str.ofString "here" ∧ z ≠ Str.ofString "quotient" ∧ z ≠ Str.ofString "near" := by
  refine ⟨?_, ?_, ?_, ?_, ?_, ?_⟩ <;> (intro e; subst e; revert h; decide)
theorem fracs_snoc {k n : Nat} {led : Ledger} {vs : List Value} {v : Value} (h : FracsAre k led vs n) (hv : PairAt led v (tHx k n) (tHy k n)) : FracsAre k led (vs ++ [v]) (n + 1) := by
  obtain ⟨hl, h⟩ := h
  refine ⟨by simp [hl], fun j hj => ?_⟩
  by_cases hjn : j < n
  · obtain ⟨v', e, p⟩ := h j hjn
    exact ⟨v', by rw [List.getElem?_append_left (by omega)]; exact e, p⟩
  · obtain rfl : j = n := by omega
    exact ⟨v, by rw [← hl]; simp, hv⟩
theorem lend {k t : Nat} {h₀ : Heap} {L : Addr} {m₀ u : Names} {aP aT aF aC aB : Addr} {oB cl : Obj} {T R news' : Ledger} {s₁ : Shared} {h' : Heap} {tk : Nat} {st nr fr : Addr} {a1 a2 a3 b1 b2 d1 d2 p1 p2 uz : Tok} {c1 c2 c3 pn tn fn : Nat} {pv tv fv : List Value} {x : Value}
    {w1 w2 w3 : Value} {v3 v4 v5 v6 v7 v8 v9 : Option Value}
    (hlt : t + 1 < 2 * csz k) (hfl : fv.length = t + 2) (hfr : ∀ j, j < t + 2 → ∃ v, fv[j]? = some v ∧ PairAt T v (tHx k j) (tHy k j)) (hpv : IntsAre pv (partsL k t)) (htv : IntsAre tv (toldL k t)) (hcl : cl.data = .cell (some x))
    (F : Fr h₀ L h' (fun y => if y = Str.ofString "size" then some (.int (sizeAt k (t + 1)) uz) else if y = Str.ofString "apart" then some (.ref nr) else if y = Str.ofString "near" then v3 else if y = Str.ofString "quotient" then v4 else if y = Str.ofString "ahead" then v5 else
      if y = Str.ofString "here" then v6 else if y = Str.ofString "below" then v7 else if y = Str.ofString "added" then v8 else if y = Str.ofString "state" then some (.ref st) else if y = Str.ofString "turn" then v9 else
      kstB (fun z => if LTmp.contains z then u z else m₀ z) [(Str.ofString "state", w1), (Str.ofString "size", w2), (Str.ofString "apart", w3)] y)) (N : News h₀ L h' news')
    (mP : (aP, listOf (pv ++ [Value.int (tP k (t + 1)) p1]).toArray pn) ∈ news') (mT : (aT, listOf (tv ++ [Value.int (tT k t) p2]).toArray tn) ∈ news') (mF : (aF, listOf (fv ++ [Value.ref fr]).toArray fn) ∈ news') (mC : (aC, cl) ∈ news') (mB : (aB, oB) ∈ news') (mR : ∀ p ∈ R, p ∈ news')
    (n1 : (st, tupO [.int (tA k (t + 1)) a1, .int (tB k (t + 1)) a2, .int (tP k (t + 1)) a3] c1) ∈ news') (n2 : (nr, tupO [.int (tNx k t) b1, .int (tNe k t) b2] c2) ∈ news') (n3 : (fr, tupO [.int (tHx k (t + 2)) d1, .int (tHy k (t + 2)) d2] c3) ∈ news')
    (l1 : aP < st ∧ aT < st ∧ aF < st ∧ aC < st ∧ aB < st ∧ AllLt st R) (l2 : aP < nr ∧ aT < nr ∧ aF < nr ∧ aC < nr ∧ aB < nr ∧ AllLt nr R) (l3 : aP < fr ∧ aT < fr ∧ aF < fr ∧ aC < fr ∧ aB < fr ∧ AllLt fr R) :
    LEnd k h₀ L m₀ aP aT aF aC aB oB T R t s₁ { s₁ with heap := h', toks := tk } := by
  refine ⟨⟨t + 1, st, .ref nr, sizeAt k (t + 1), uz, pv ++ [.int (tP k (t + 1)) p1], tv ++ [.int (tT k t) p2], fv ++ [.ref fr], pn, tn, fn, cl⟩,
    [(st, tupO [.int (tA k (t + 1)) a1, .int (tB k (t + 1)) a2, .int (tP k (t + 1)) a3] c1), (nr, tupO [.int (tNx k t) b1, .int (tNe k t) b2] c2), (fr, tupO [.int (tHx k (t + 2)) d1, .int (tHy k (t + 2)) d2] c3)], h', tk, _, news', rfl, F, N, ?_, ?_, ?_, ?_, ?_, rfl, ?_, ?_⟩
  · intro p hp
    simp only [List.cons_append, List.nil_append, List.mem_cons] at hp
    rcases hp with rfl | rfl | rfl | rfl | rfl | hp
    · exact mP
    · exact mT
    · exact mF
    · exact mC
    · exact mB
    · exact mR p hp
  · intro p hp
    simp only [List.mem_cons, List.not_mem_nil, or_false] at hp
    rcases hp with rfl | rfl | rfl
    · exact n1
    · exact n2
    · exact n3
  · intro p hp
    simp only [List.mem_cons, List.not_mem_nil, or_false] at hp
    rcases hp with rfl | rfl | rfl
    · exact l1
    · exact l2
    · exact l3
  · refine ⟨⟨a1, a2, a3, c1, .head _⟩, .inr ⟨Nat.succ_pos _, nr, b1, b2, c2, rfl, .tail _ (.head _)⟩, fracs_snoc ⟨hfl, fun j hj => ?_⟩ ⟨fr, d1, d2, c3, rfl, .tail _ (.tail _ (.head _))⟩⟩
    obtain ⟨v, e, p⟩ := hfr j hj
    exact ⟨v, e, p.mono fun q hq => .tail _ (.tail _ (.tail _ hq))⟩
  · refine ⟨hlt, rfl, ?_, ?_, _, hcl⟩
    · rw [partsL_succ]
      exact hpv.append (.cons _ _ .nil)
    · rw [toldL_succ]
      exact htv.append (.cons _ _ .nil)
  · intro p hp
    simp only [List.mem_cons, List.not_mem_nil, or_false] at hp
    rcases hp with rfl | rfl | rfl <;> rfl
  · intro z z1 z2 z3
    obtain ⟨y1, y2, y3, y4, y5, y6⟩ := ltmp_ne z3
    have x1 : z ≠ Str.ofString "state" := z2 _ (.head _)
    have x2 : z ≠ Str.ofString "size" := z2 _ (.tail _ (.head _))
    have x3 : z ≠ Str.ofString "apart" := z2 _ (.tail _ (.tail _ (.head _)))
    simp only [kstB, if_neg x1, if_neg x2, if_neg x3, if_neg y1, if_neg y2, if_neg y3, if_neg y4, if_neg y5, if_neg y6, if_neg z1, z3, Bool.false_eq_true, if_false]
theorem rows72 : True := by
  k_with "my all" => first | exact (by with_reducible assumption) | exact (And.right (by with_reducible assumption)) | exact (And.right (And.right (by with_reducible assumption))) | exact (And.right (And.right (And.right (by with_reducible assumption)))) | exact (And.right (And.right (And.right (And.right (by with_reducible assumption))))) | exact (And.right (And.right (And.right (And.right (And.right (by with_reducible assumption)))))) | exact (And.right (And.right (And.right (And.right (And.right (And.right (by with_reducible assumption))))))) | exact (And.right (And.right (And.right (And.right (And.right (And.right (And.right (by with_reducible assumption)))))))) | exact (And.right (And.right (And.right (And.right (And.right (And.right (And.right (And.right (by with_reducible assumption))))))))) | exact (And.right (And.right (And.right (And.right (And.right (And.right (And.right (And.right (And.right (by with_reducible assumption)))))))))) | exact (And.right (And.right (And.right (And.right (And.right (And.right (And.right (And.right (And.right (And.right (by with_reducible assumption))))))))))) | exact (And.right (And.right (And.right (And.right (And.right (And.right (And.right (And.right (And.right (And.right (And.right (by with_reducible assumption)))))))))))) | exact (And.right (And.right (And.right (And.right (And.right (And.right (And.right (And.right (And.right (And.right (And.right (And.right (by with_reducible assumption))))))))))))) | exact (And.right (And.right (And.right (And.right (And.right (And.right (And.right (And.right (And.right (And.right (And.right (And.right (And.right (by with_reducible assumption)))))))))))))) | exact (And.right (And.right (And.right (And.right (And.right (And.right (And.right (And.right (And.right (And.right (And.right (And.right (And.right (And.right (by with_reducible assumption))))))))))))))) | exact (And.right (And.right (And.right (And.right (And.right (And.right (And.right (And.right (And.right (And.right (And.right (And.right (And.right (And.right (And.right (by with_reducible assumption)))))))))))))))) | exact (And.right (And.right (And.right (And.right (And.right (And.right (And.right (And.right (And.right (And.right (And.right (And.right (And.right (And.right (And.right (And.right (by with_reducible assumption))))))))))))))))) | exact (And.right (And.right (And.right (And.right (And.right (And.right (And.right (And.right (And.right (And.right (And.right (And.right (And.right (And.right (And.right (And.right (And.right (by with_reducible assumption)))))))))))))))))) | exact (And.right (And.right (And.right (And.right (And.right (And.right (And.right (And.right (And.right (And.right (And.right (And.right (And.right (And.right (And.right (And.right (And.right (And.right (by with_reducible assumption))))))))))))))))))) | exact (And.right (And.right (And.right (And.right (And.right (And.right (And.right (And.right (And.right (And.right (And.right (And.right (And.right (And.right (And.right (And.right (And.right (And.right (And.right (by with_reducible assumption)))))))))))))))))))) | exact (And.right (And.right (And.right (And.right (And.right (And.right (And.right (And.right (And.right (And.right (And.right (And.right (And.right (And.right (And.right (And.right (And.right (And.right (And.right (And.right (by with_reducible assumption))))))))))))))))))))) | exact (And.right (And.right (And.right (And.right (And.right (And.right (And.right (And.right (And.right (And.right (And.right (And.right (And.right (And.right (And.right (And.right (And.right (And.right (And.right (And.right (And.right (by with_reducible assumption)))))))))))))))))))))) | exact (And.right (And.right (And.right (And.right (And.right (And.right (And.right (And.right (And.right (And.right (And.right (And.right (And.right (And.right (And.right (And.right (And.right (And.right (And.right (And.right (And.right (And.right (by with_reducible assumption))))))))))))))))))))))) | exact (And.right (And.right (And.right (And.right (And.right (And.right (And.right (And.right (And.right (And.right (And.right (And.right (And.right (And.right (And.right (And.right (And.right (And.right (And.right (And.right (And.right (And.right (And.right (by with_reducible assumption))))))))))))))))))))))))
  k_with "LPost" => ((with_reducible show LPost _ _ _ _ _ _ _ _ _ _ _ _ _ _ _ Flow.next _); (with_unfolding_all show LEnd _ _ _ _ _ _ _ _ _ _ _ _ _ _ _); focus (refine' lend ?h1q9 ?h2q9 ?h3q9 ?h4q9 ?h5q9 ?h6q9 ?Fq9 ?Nq9 ?m1q9 ?m2q9 ?m3q9 ?m4q9 ?m5q9 ?m6q9 ?n1q9 ?n2q9 ?n3q9 ?l1q9 ?l2q9 ?l3q9; (case Fq9 => k_asm); (case Nq9 => k_asm); (case m4q9 => k_mem); (case h1q9 => with_reducible assumption); (case h2q9 => with_reducible assumption); (case h3q9 => with_reducible assumption); (case h4q9 => with_reducible assumption); (case h5q9 => with_reducible assumption); (case h6q9 => with_reducible assumption); (case m1q9 => k_mem); (case m2q9 => k_mem); (case m3q9 => k_mem); (case m5q9 => k_mem); (case m6q9 => walk_at "my sub"); (case n1q9 => k_mem); (case n2q9 => k_mem); (case n3q9 => k_mem); (case l1q9 => exact ⟨by show @LT.lt Nat _ _ _; omega, by show @LT.lt Nat _ _ _; omega, by show @LT.lt Nat _ _ _; omega, by show @LT.lt Nat _ _ _; omega, by show @LT.lt Nat _ _ _; omega, by walk_at "my all"⟩); (case l2q9 => exact ⟨by show @LT.lt Nat _ _ _; omega, by show @LT.lt Nat _ _ _; omega, by show @LT.lt Nat _ _ _; omega, by show @LT.lt Nat _ _ _; omega, by show @LT.lt Nat _ _ _; omega, by walk_at "my all"⟩); (case l3q9 => exact ⟨by show @LT.lt Nat _ _ _; omega, by show @LT.lt Nat _ _ _; omega, by show @LT.lt Nat _ _ _; omega, by show @LT.lt Nat _ _ _; omega, by show @LT.lt Nat _ _ _; omega, by walk_at "my all"⟩)))
  trivial
def TailB (k : Nat) : Prop :=
  (1 ≤ csz k ∧ csz k ≤ 6) ∧ (partsL k (2 * csz k)).drop (csz k) = (partsL k (2 * csz k)).take (csz k) ∧ (partsL k (2 * csz k)).take (csz k - 1) = ((partsL k (2 * csz k)).take (csz k - 1)).reverse ∧
  iabs (tT k (csz k - 1)) = 1 ∧ tT k (2 * csz k - 1) = 1 ∧
  (0 ≤ tHx k (csz k) ∧ tHx k (csz k) < 2 ^ 20 ∧ 0 ≤ tHy k (csz k) ∧ tHy k (csz k) < 2 ^ 20 ∧ 0 < cn k ∧ cn k < 30) ∧
  tHx k (2 * csz k) = tHx k (csz k) * tHx k (csz k) + cn k * tHy k (csz k) * tHy k (csz k) ∧ tHy k (2 * csz k) = 2 * tHx k (csz k) * tHy k (csz k)
set_option synthInstance.maxHeartbeats 2000000 in
set_option synthInstance.maxSize 100000 in
theorem tailB_all : ∀ k, k < 24 → TailB k := by unfold TailB; decide +kernel
structure TailF (k : Nat) : Prop where
  z1 : 1 ≤ csz k
  z2 : csz k ≤ 6
  pd : (partsL k (2 * csz k)).drop (csz k) = (partsL k (2 * csz k)).take (csz k)
  pr : (partsL k (2 * csz k)).take (csz k - 1) = ((partsL k (2 * csz k)).take (csz k - 1)).reverse
  t1 : iabs (tT k (csz k - 1)) = 1
  t2 : tT k (2 * csz k - 1) = 1
  b : 0 ≤ tHx k (csz k) ∧ tHx k (csz k) < 2 ^ 20 ∧ 0 ≤ tHy k (csz k) ∧ tHy k (csz k) < 2 ^ 20 ∧ 0 < cn k ∧ cn k < 30
  f1 : tHx k (2 * csz k) = tHx k (csz k) * tHx k (csz k) + cn k * tHy k (csz k) * tHy k (csz k)
  f2 : tHy k (2 * csz k) = 2 * tHx k (csz k) * tHy k (csz k)
theorem tailF {k : Nat} (hk : k < 24) : TailF k := by
  obtain ⟨⟨a1, a2⟩, a3, a4, a5, a6, a7, a8, a9⟩ := tailB_all k hk
  exact ⟨a1, a2, a3, a4, a5, a6, a7, a8, a9⟩
def brX (k i j : Nat) : Int := tHx k (i + 1) * tHx k (j + 1) + cn k * tHy k (i + 1) * tHy k (j + 1)
def brY (k i j : Nat) : Int := tHx k (i + 1) * tHy k (j + 1) + tHy k (i + 1) * tHx k (j + 1)
def BrahB (k i j : Nat) : Prop :=
  (0 ≤ tHx k (i + 1) ∧ tHx k (i + 1) < 2 ^ 20 ∧ 0 ≤ tHy k (i + 1) ∧ tHy k (i + 1) < 2 ^ 20 ∧ -2 ^ 10 < tT k i ∧ tT k i < 2 ^ 10) ∧
  (-2 ^ 46 < brX k i j ∧ brX k i j < 2 ^ 46 ∧ -2 ^ 40 < brY k i j ∧ brY k i j < 2 ^ 40) ∧
  brX k i j * brX k i j - cn k * (brY k i j * brY k i j) = tT k i * tT k j
set_option synthInstance.maxHeartbeats 2000000 in
set_option synthInstance.maxSize 100000 in
theorem brahB_all : ∀ k, k < 24 → ∀ i, i < 2 * csz k → ∀ j, j < 2 * csz k → BrahB k i j := by unfold BrahB; decide +kernel
theorem tail_in {k t : Nat} {h₀ : Heap} {L : Addr} {m : Names} {aP aT aF aB : Addr} {oB : Obj} {T R news' : Ledger} {h' : Heap} {p1 p2 uz : Tok} {pn tn fn : Nat} {pv tv fv : List Value} {G : Prop}
    (hte : t + 1 = 2 * csz k) (htz : sizeAt k (t + 1) = (csz k : Int)) (hk : k < 24) (hfl : fv.length = t + 2) (hfr : ∀ j, j < t + 2 → ∃ v, fv[j]? = some v ∧ PairAt T v (tHx k j) (tHy k j)) (hTR : ∀ p ∈ T, p ∈ R) (hpv : IntsAre pv (partsL k t)) (htv : IntsAre tv (toldL k t))
    (F : Fr h₀ L h' (fun y => if y = Str.ofString "size" then some (.int (sizeAt k (t + 1)) uz) else m y)) (N : News h₀ L h' news')
    (mP : (aP, listOf (pv ++ [Value.int (tP k (t + 1)) p1]).toArray pn) ∈ news') (mT : (aT, listOf (tv ++ [Value.int (tT k t) p2]).toArray tn) ∈ news') (mF : (aF, listOf fv.toArray fn) ∈ news') (hB : m (Str.ofString "bag") = some (.ref aB)) (mB : (aB, oB) ∈ news') (mR : ∀ p ∈ R, p ∈ news')
    (h : ∀ (pvT tvT : List Value), CutMark → TailF k → 1 ≤ csz k → csz k ≤ 6 → (0 ≤ tHx k (csz k) ∧ tHx k (csz k) < 2 ^ 20 ∧ 0 ≤ tHy k (csz k) ∧ tHy k (csz k) < 2 ^ 20 ∧ 0 < cn k ∧ cn k < 30) → iabs (tT k (csz k - 1)) = 1 → tT k (2 * csz k - 1) = 1 → IntsAre pvT (partsL k (2 * csz k)) → pvT.length = 2 * csz k → (partsL k (2 * csz k)).length = 2 * csz k → IntsAre tvT (toldL k (2 * csz k)) → tvT.length = 2 * csz k → fv.length = 2 * csz k + 1 →
      (∀ j, j < 2 * csz k + 1 → ∃ v, fv[j]? = some v ∧ PairAt R v (tHx k j) (tHy k j)) → Fr h₀ L h' (fun y => if y = Str.ofString "size" then some (.int (csz k : Int) uz) else m y) →
      News h₀ L h' ((aP, listOf pvT.toArray pn) :: (aT, listOf tvT.toArray tn) :: (aF, listOf fv.toArray fn)   :: (aB, oB) :: R) → G) : G := by
  have hP : IntsAre (pv ++ [Value.int (tP k (t + 1)) p1]) (partsL k (2 * csz k)) := by
    rw [← hte, partsL_succ]
    exact hpv.append (.cons _ _ .nil)
  have hT : IntsAre (tv ++ [Value.int (tT k t) p2]) (toldL k (2 * csz k)) := by
    rw [← hte, toldL_succ]
    exact htv.append (.cons _ _ .nil)
  have lP : (partsL k (2 * csz k)).length = 2 * csz k := by simp [partsL]
  have lT : (toldL k (2 * csz k)).length = 2 * csz k := by simp [toldL]
  have tl := tailF hk
  rw [htz] at F
  refine h _ _ ⟨⟩ tl tl.z1 tl.z2 tl.b tl.t1 tl.t2 hP (hP.length.trans lP) lP hT (hT.length.trans lT) (by omega) (fun j hj => ?_) F ?_
  · obtain ⟨v, e, p⟩ := hfr j (by omega)
    exact ⟨v, e, p.mono hTR⟩
  · intro q hq
    rcases List.mem_cons.mp hq with rfl | hq
    · exact N _ mP
    rcases List.mem_cons.mp hq with rfl | hq
    · exact N _ mT
    rcases List.mem_cons.mp hq with rfl | hq
    · exact N _ mF
    rcases List.mem_cons.mp hq with rfl | hq
    · exact N _ mB
    exact N _ (mR q hq)
section
variable {prog : Program} {w : World} {A : Around} {E : Value → Shared → Prop} {s : Shared} {h₀ : Heap} {L l : Addr} {m : Names} {news : Ledger} {value slice : PySem.Expr} {vs us : List Value} {ns ms : List Int} {n c : Nat} {t : Tok} {Q : Value → Shared → Prop}
theorem t_from (F : Fr h₀ L s.heap m) (N : News h₀ L s.heap news) (hm : (l, listOf vs.toArray n) ∈ news) (hi : IntsAre vs ns) (hv : vs.length ≤ 1000)
    (h : ∀ D ws h', Fr h₀ L h' m → News h₀ L h' ((D, listOf (List.toArray ws) 0) :: news) → (∀ p ∈ news, p.1 < D) → IntsAre ws (ns.drop c) → ws.length ≤ 1000 → Q (.ref D) { s with heap := h' })
    (hs : subscripted slice false (.ref l) (.ref s.heap.objs.size) = operate [.ref s.heap.objs.size, .ref l] (getItem (.ref l) (.ref s.heap.objs.size))) (ht : ∀ r, letTemporaryGo value (.ref l) r = pure ()) :
    wpAny (model prog w) A (subscriptTail value slice (.ref l) (.ref s.heap.objs.size)) Q E { s with heap := s.heap.push { cls := .type "slice", data := .fields #[.int (c : Int) t, .none, .none] } } :=
  kmk_slice_ints F N (News.isList N hm) (IsPart.int _ _) IsPart.none hi (kmk_from hi (by omega)) rfl
    (fun D ws h' F' N' l1 hI _ hle => by
      rw [Int.toNat_natCast] at hI hle
      exact h D ws h' F' N' l1 hI (by have := hI.length; have := hi.length; omega)) hs ht (by rw [List.size_toArray, sizeLine_eq]; omega)
theorem t_upto (F : Fr h₀ L s.heap m) (N : News h₀ L s.heap news) (hm : (l, listOf vs.toArray n) ∈ news) (hi : IntsAre vs ns) (hv : vs.length ≤ 1000)
    (h : ∀ D ws h', Fr h₀ L h' m → News h₀ L h' ((D, listOf (List.toArray ws) 0) :: news) → (∀ p ∈ news, p.1 < D) → IntsAre ws (ns.take c) → ws.length ≤ 1000 → Q (.ref D) { s with heap := h' })
    (hs : subscripted slice false (.ref l) (.ref s.heap.objs.size) = operate [.ref s.heap.objs.size, .ref l] (getItem (.ref l) (.ref s.heap.objs.size))) (ht : ∀ r, letTemporaryGo value (.ref l) r = pure ()) :
    wpAny (model prog w) A (subscriptTail value slice (.ref l) (.ref s.heap.objs.size)) Q E { s with heap := s.heap.push { cls := .type "slice", data := .fields #[.none, .int (c : Int) t, .none] } } :=
  kmk_slice_ints F N (News.isList N hm) IsPart.none (IsPart.int _ _) hi (kmk_upto hi (by omega)) rfl
    (fun D ws h' F' N' l1 hI _ hle => by
      rw [Int.toNat_natCast] at hI hle
      exact h D ws h' F' N' l1 hI (by have := hI.length; have := hi.length; omega)) hs ht (by rw [List.size_toArray, sizeLine_eq]; omega)
theorem t_upto1 (F : Fr h₀ L s.heap m) (N : News h₀ L s.heap news) (hm : (l, listOf vs.toArray n) ∈ news) (hi : IntsAre vs ns) (hv : vs.length ≤ 1000) (hc : 1 ≤ c)
    (h : ∀ D ws h', Fr h₀ L h' m → News h₀ L h' ((D, listOf (List.toArray ws) 0) :: news) → (∀ p ∈ news, p.1 < D) → IntsAre ws (ns.take (c - 1)) → ws.length ≤ 1000 → Q (.ref D) { s with heap := h' })
    (hs : subscripted slice false (.ref l) (.ref s.heap.objs.size) = operate [.ref s.heap.objs.size, .ref l] (getItem (.ref l) (.ref s.heap.objs.size))) (ht : ∀ r, letTemporaryGo value (.ref l) r = pure ()) :
    wpAny (model prog w) A (subscriptTail value slice (.ref l) (.ref s.heap.objs.size)) Q E { s with heap := s.heap.push { cls := .type "slice", data := .fields #[.none, .int ((c : Int) - 1) t, .none] } } :=
  kmk_slice_ints F N (News.isList N hm) IsPart.none (IsPart.int _ _) hi (kmk_upto hi (by omega)) rfl
    (fun D ws h' F' N' l1 hI _ hle => by
      have e : ((c : Int) - 1).toNat = c - 1 := by omega
      rw [e] at hI hle
      exact h D ws h' F' N' l1 hI (by have := hI.length; have := hi.length; omega)) hs ht (by rw [List.size_toArray, sizeLine_eq]; omega)
theorem told_at {k j : Nat} (hj : j < 2 * csz k) : (toldL k (2 * csz k)).getD j 0 = tT k j := by
  unfold toldL
  rw [List.getD_eq_getElem?_getD, List.getElem?_map, List.getElem?_range hj]
  rfl
theorem t_told {k j : Nat} {x : Int} {u : Tok} (N : News h₀ L s.heap news) (hm : (l, listOf vs.toArray n) ∈ news) (hi : IntsAre vs (toldL k (2 * csz k))) (hz : csz k ≤ 6) (hx : x = (j : Int)) (hj : j < 2 * csz k) (h : ∀ t, Q (.int (tT k j) t) s)
    (hs : subscripted slice false (.ref l) (.int x u) = operate [.ref l, .int x u] (getItem (.ref l) (.int x u))) :
    wpAny (model prog w) A (subscriptTail value slice (.ref l) (.int x u)) Q E s := by
  subst hx
  have hl : (toldL k (2 * csz k)).length = 2 * csz k := by simp [toldL]
  refine item_anyK (News.isList N hm) hi (by omega) (by omega) (by omega) (fun t => ?_) hs
  rw [Int.toNat_natCast, told_at hj]
  exact h t
theorem t_frac {k j : Nat} {x : Int} {u : Tok} {R : Ledger} (N : News h₀ L s.heap news) (hm : (l, listOf vs.toArray n) ∈ news) (hf : ∀ j, j < 2 * csz k + 1 → ∃ v, vs[j]? = some v ∧ PairAt R v (tHx k j) (tHy k j)) (hz : csz k ≤ 6) (hx : x = (j : Int)) (hj : j < 2 * csz k + 1)
    (h : ∀ a t1 t2 c, (a, tupO [.int (tHx k j) t1, .int (tHy k j) t2] c) ∈ R → Q (.ref a) s)
    (hs : subscripted slice false (.ref l) (.int x u) = operate [.ref l, .int x u] (getItem (.ref l) (.int x u))) :
    wpAny (model prog w) A (subscriptTail value slice (.ref l) (.int x u)) Q E s := by
  subst hx
  obtain ⟨v, e, a, t1, t2, c, rfl, hm'⟩ := hf j hj
  exact tail_any (News.isList N hm).typeIs slot_list_getitem.lookup (wpAny_getItem_list (News.isList N hm) (by omega) (by omega) (by rw [Int.toNat_natCast]; simpa using e) (h a t1 t2 c hm')) hs
theorem t_toldA {k : Nat} {u : Tok} (N : News h₀ L s.heap news) (hm : (l, listOf vs.toArray n) ∈ news) (hi : IntsAre vs (toldL k (2 * csz k))) (hz1 : 1 ≤ csz k) (hz : csz k ≤ 6) (h : ∀ t, Q (.int (tT k (csz k - 1)) t) s)
    (hs : subscripted slice false (.ref l) (.int ((csz k : Int) - 1) u) = operate [.ref l, .int ((csz k : Int) - 1) u] (getItem (.ref l) (.int ((csz k : Int) - 1) u))) :
    wpAny (model prog w) A (subscriptTail value slice (.ref l) (.int ((csz k : Int) - 1) u)) Q E s :=
  t_told N hm hi hz (j := csz k - 1) (by omega) (by omega) h hs
theorem t_toldB {k : Nat} {u : Tok} (N : News h₀ L s.heap news) (hm : (l, listOf vs.toArray n) ∈ news) (hi : IntsAre vs (toldL k (2 * csz k))) (hz1 : 1 ≤ csz k) (hz : csz k ≤ 6) (h : ∀ t, Q (.int (tT k (2 * csz k - 1)) t) s)
    (hs : subscripted slice false (.ref l) (.int (2 * (csz k : Int) - 1) u) = operate [.ref l, .int (2 * (csz k : Int) - 1) u] (getItem (.ref l) (.int (2 * (csz k : Int) - 1) u))) :
    wpAny (model prog w) A (subscriptTail value slice (.ref l) (.int (2 * (csz k : Int) - 1) u)) Q E s :=
  t_told N hm hi hz (j := 2 * csz k - 1) (by omega) (by omega) h hs
theorem t_toldC {k j : Nat} {u : Tok} (N : News h₀ L s.heap news) (hm : (l, listOf vs.toArray n) ∈ news) (hi : IntsAre vs (toldL k (2 * csz k))) (hz1 : 1 ≤ csz k) (hz : csz k ≤ 6) (hk : k < 24) (hj : j < 2 * csz k) (h : ∀ t, (-2 ^ 10 < tT k j ∧ tT k j < 2 ^ 10) → Q (.int (tT k j) t) s)
    (hs : subscripted slice false (.ref l) (.int (j : Int) u) = operate [.ref l, .int (j : Int) u] (getItem (.ref l) (.int (j : Int) u))) :
    wpAny (model prog w) A (subscriptTail value slice (.ref l) (.int (j : Int) u)) Q E s :=
  t_told N hm hi hz rfl hj (fun t => h t (brahB_all k hk j hj j hj).1.2.2.2.2) hs
theorem t_fracA {k : Nat} {u : Tok} {R : Ledger} (N : News h₀ L s.heap news) (hm : (l, listOf vs.toArray n) ∈ news) (hf : ∀ j, j < 2 * csz k + 1 → ∃ v, vs[j]? = some v ∧ PairAt R v (tHx k j) (tHy k j)) (hz : csz k ≤ 6) (h : ∀ a t1 t2 c, (a, tupO [.int (tHx k (csz k)) t1, .int (tHy k (csz k)) t2] c) ∈ R → Q (.ref a) s)
    (hs : subscripted slice false (.ref l) (.int (csz k : Int) u) = operate [.ref l, .int (csz k : Int) u] (getItem (.ref l) (.int (csz k : Int) u))) :
    wpAny (model prog w) A (subscriptTail value slice (.ref l) (.int (csz k : Int) u)) Q E s :=
  t_frac N hm hf hz rfl (by omega) h hs
theorem t_fracB {k : Nat} {u : Tok} {R : Ledger} (N : News h₀ L s.heap news) (hm : (l, listOf vs.toArray n) ∈ news) (hf : ∀ j, j < 2 * csz k + 1 → ∃ v, vs[j]? = some v ∧ PairAt R v (tHx k j) (tHy k j)) (hz : csz k ≤ 6) (h : ∀ a t1 t2 c, (a, tupO [.int (tHx k (2 * csz k)) t1, .int (tHy k (2 * csz k)) t2] c) ∈ R → Q (.ref a) s)
    (hs : subscripted slice false (.ref l) (.int (2 * (csz k : Int)) u) = operate [.ref l, .int (2 * (csz k : Int)) u] (getItem (.ref l) (.int (2 * (csz k : Int)) u))) :
    wpAny (model prog w) A (subscriptTail value slice (.ref l) (.int (2 * (csz k : Int)) u)) Q E s :=
  t_frac N hm hf hz (j := 2 * csz k) (by omega) (by omega) h hs
theorem t_fracC {k j : Nat} {u : Tok} {R : Ledger} (N : News h₀ L s.heap news) (hm : (l, listOf vs.toArray n) ∈ news) (hf : ∀ j, j < 2 * csz k + 1 → ∃ v, vs[j]? = some v ∧ PairAt R v (tHx k j) (tHy k j)) (hz : csz k ≤ 6) (hk : k < 24) (hj : j < 2 * csz k) (h : ∀ a t1 t2 c, (a, tupO [.int (tHx k (j + 1)) t1, .int (tHy k (j + 1)) t2] c) ∈ R → (0 ≤ tHx k (j + 1) ∧ tHx k (j + 1) < 2 ^ 20 ∧ 0 ≤ tHy k (j + 1) ∧ tHy k (j + 1) < 2 ^ 20) → Q (.ref a) s)
    (hs : subscripted slice false (.ref l) (.int ((j : Int) + 1) u) = operate [.ref l, .int ((j : Int) + 1) u] (getItem (.ref l) (.int ((j : Int) + 1) u))) :
    wpAny (model prog w) A (subscriptTail value slice (.ref l) (.int ((j : Int) + 1) u)) Q E s :=
  t_frac N hm hf hz (j := j + 1) (by omega) (by omega) (fun a t1 t2 c hm => h a t1 t2 c hm (let b := (brahB_all k hk j hj j hj).1; ⟨b.1, b.2.1, b.2.2.1, b.2.2.2.1⟩)) hs
theorem brah_told {k i j : Nat} (hk : k < 24) (hi : i < 2 * csz k) (hj : j < 2 * csz k) (hn : 0 < cn k ∧ cn k < 30) :
    (-2 ^ 46 < tHx k (i + 1) * tHx k (j + 1) + cn k * tHy k (i + 1) * tHy k (j + 1) ∧ tHx k (i + 1) * tHx k (j + 1) + cn k * tHy k (i + 1) * tHy k (j + 1) < 2 ^ 46 ∧ -2 ^ 40 < tHx k (i + 1) * tHy k (j + 1) + tHy k (i + 1) * tHx k (j + 1) ∧ tHx k (i + 1) * tHy k (j + 1) + tHy k (i + 1) * tHx k (j + 1) < 2 ^ 40 ∧ 0 < cn k ∧ cn k < 2 ^ 10) ∧
    (tHx k (i + 1) * tHx k (j + 1) + cn k * tHy k (i + 1) * tHy k (j + 1)) * (tHx k (i + 1) * tHx k (j + 1) + cn k * tHy k (i + 1) * tHy k (j + 1)) - cn k * ((tHx k (i + 1) * tHy k (j + 1) + tHy k (i + 1) * tHx k (j + 1)) * (tHx k (i + 1) * tHy k (j + 1) + tHy k (i + 1) * tHx k (j + 1))) = tT k i * tT k j := by
  obtain ⟨_, ⟨b1, b2, b3, b4⟩, e⟩ := brahB_all k hk i hi j hj
  exact ⟨⟨b1, b2, b3, b4, hn.1, by omega⟩, e⟩
theorem t_neT {a b : Addr} {x1 y1 x2 y2 : Int} {t1 t2 t3 t4 : Tok} {c1 c2 : Nat} (N : News h₀ L s.heap news) (m1 : (a, tupO [.int x1 t1, .int y1 t2] c1) ∈ news) (m2 : (b, tupO [.int x2 t3, .int y2 t4] c2) ∈ news) (e1 : x1 = x2) (e2 : y1 = y2) (hu : A.units + 64 < cLine) (h : Q (.bool false) s) :
    wpAny (model prog w) A (compareOp .NotEq (.ref a) (.ref b)) Q E s := by
  subst e1 e2
  refine ne_dataH (reads_tuple_at (N _ m1).1 rfl rfl (.cons (.int _ _) (.cons (.int _ _) .nil))) (reads_tuple_at (N _ m2).1 rfl rfl (.cons (.int _ _) (.cons (.int _ _) .nil))) rfl rfl hu ?_
  simp only [PyData.eqv, PyData.eqvAll, decide_true, beq_self_eq_true, Bool.and_true, Bool.not_true]
  exact h
theorem t_eqS {x : Int} {u : Tok} (h : Q (.bool true) s) : wpAny (model prog w) A (compareOp .Eq (.int x t) (.int x u)) Q E s :=
  eq_int (by rw [beq_self_eq_true]; exact h)
theorem t_item {x : Int} {u : Tok} {v : Value} (N : News h₀ L s.heap news) (hm : (l, listOf vs.toArray n) ∈ news) (h0 : 0 ≤ x) (h1 : x < 2 ^ 63) (hx : vs[x.toNat]? = some v) (h : Q v s)
    (hs : subscripted slice false (.ref l) (.int x u) = operate [.ref l, .int x u] (getItem (.ref l) (.int x u))) :
    wpAny (model prog w) A (subscriptTail value slice (.ref l) (.int x u)) Q E s :=
  tail_any (News.isList N hm).typeIs slot_list_getitem.lookup (wpAny_getItem_list (News.isList N hm) h0 h1 (by simpa using hx) h) hs
theorem t_slen (N : News h₀ L s.heap news) (hm : (l, listOf vs.toArray n) ∈ news) (hi : IntsAre vs ns) (hb : ns.length ≤ 1000) (h : Q (.int (ns.length : Nat) (s.toks + 1)) { s with toks := s.toks + 1 + 1 }) :
    wpAny (model prog w) A (call (.builtin "len") [.ref l]) Q E s :=
  KM.len_K N hm (by rw [List.size_toArray]; exact hi.length) (by omega) h
theorem t_sitem {x : Int} {u : Tok} (N : News h₀ L s.heap news) (hm : (l, listOf vs.toArray n) ∈ news) (hi : IntsAre vs ns) (h0 : 0 ≤ x) (h1 : x < (ns.length : Int)) (h2 : x ≤ 1000) (h : ∀ t, Q (.int (ns.getD x.toNat 0) t) s)
    (hs : subscripted slice false (.ref l) (.int x u) = operate [.ref l, .int x u] (getItem (.ref l) (.int x u))) :
    wpAny (model prog w) A (subscriptTail value slice (.ref l) (.int x u)) Q E s :=
  item_anyK (News.isList N hm) hi h0 h1 (by omega) h hs
theorem take3_le (ns : List Int) : (List.take 3 ns).length ≤ 1000 := by
  rw [List.length_take]
  omega
theorem nat_under {x : Int} {c : Nat} (h : 0 ≤ x ∧ x < 2 * (c : Int)) : ∃ i : Nat, x = (i : Int) ∧ i < 2 * c := ⟨x.toNat, by omega, by omega⟩
theorem t_rev {ops : List Value} (F : Fr h₀ L s.heap m) (N : News h₀ L s.heap news) (hm : (l, listOf vs.toArray n) ∈ news) (hi : IntsAre vs ns) (hv : vs.length ≤ 1000)
    (h : ∀ D ws h', Fr h₀ L h' m → News h₀ L h' ((D, listOf (List.toArray ws) 0) :: news) → (∀ p ∈ news, p.1 < D) → IntsAre ws ns.reverse → Q (.ref D) { s with heap := h' })
    (hs : subscripted slice false (.ref l) (.ref s.heap.objs.size) = operate ops (getItem (.ref l) (.ref s.heap.objs.size))) :
    wpAny (model prog w) A (subscriptTail value slice (.ref l) (.ref s.heap.objs.size)) Q E { s with heap := s.heap.push { cls := .type "slice", data := .fields #[.none, .none, .int (-1) t] } } :=
  kba_turn (value' := PySem.Expr.Name (PySem.Str.ofString "_") ⟨0, 0, 0, 0⟩) (fun _ => rfl)
    (krv_ints F N (News.isList N hm) (IsPart.int _ _) hi (fun D ws h' F' N' l1 hI _ => h D ws h' F' N' l1 hI) hs (fun _ => rfl) (by rw [List.size_toArray, sizeLine_eq]; omega))
theorem t_ne {a b : Addr} {n1 n2 : Nat} (N : News h₀ L s.heap news) (m1 : (a, listOf vs.toArray n1) ∈ news) (m2 : (b, listOf us.toArray n2) ∈ news) (hi : IntsAre vs ns) (hi' : IntsAre us ms) (e : ns = ms) (hu : A.units + 64 < cLine) (h : Q (.bool false) s) :
    wpAny (model prog w) A (compareOp .NotEq (.ref a) (.ref b)) Q E s :=
  ne_intsK (News.isList N m1) hi (News.isList N m2) hi' hu (by rw [decide_eq_true e]; exact h)
end
theorem rows75 : True := by
  k_with "LPost" => ((with_reducible show LPost _ _ _ _ _ _ _ _ _ _ _ _ _ _ _ Flow.brk _); focus (refine' tail_in ?h1q9 ?h2q9 ?h3q9 ?h4q9 ?h5q9 ?h6q9 ?h7q9 ?h8q9 ?Fq9 ?Nq9 ?m1q9 ?m2q9 ?m3q9 ?hBq9 ?m5q9 ?m6q9 ?_; (case Fq9 => k_asm); (case Nq9 => k_asm); (case h1q9 => with_reducible assumption); (case h2q9 => with_reducible assumption); (case h3q9 => with_reducible assumption); (case h4q9 => with_reducible assumption); (case h5q9 => with_reducible assumption); (case m1q9 => k_mem); (case m2q9 => k_mem); (case m3q9 => k_mem); (case hBq9 => with_unfolding_all rfl); (case m5q9 => k_mem); (case h7q9 => with_reducible assumption); (case h8q9 => with_reducible assumption); (case h6q9 => with_reducible assumption); (case m6q9 => walk_at "my sub")); (intro pvT tvT htm htl hz1 hz6 htb ht1 ht2 hpI hpl hpl2 htI htl2 hfl hfrT F9 N9); (with_unfolding_all show wpAny _ _ _ _ _ _); (try k_fold))
  k_with "call builtin:len" => (k_here; (with_reducible rename TailF _ => htm9); (with_reducible show wpAny _ _ (call (Value.builtin "len") [Value.ref _]) _ _ _); k_dflt (refine' KM.len_K ?Nq9 ?mq9 ?sq9 ?fq9 ?_; (case Nq9 => k_asm); (case mq9 => k_mem); (case sq9 => rw [List.size_toArray]; with_reducible assumption); (case fq9 => omega)))
  k_with "subscriptTail Name Slice ref ref" => (k_here; (with_reducible rename TailF _ => htm9); (with_reducible show wpAny _ _ (subscriptTail _ (PySem.Expr.Slice _ _ none _) (Value.ref _) (Value.ref _)) _ _ _); k_dflt (refine' t_from ?Fq9 ?Nq9 ?mq9 ?iq9 ?vq9 ?_ ?sq9 ?tq9; (case Fq9 => k_asm); (case Nq9 => k_asm); (case mq9 => k_mem); (case iq9 => with_reducible assumption); (case vq9 => omega); (case sq9 => with_unfolding_all rfl); (case tq9 => kmk_pure)); intro D' ws' h' F' N' l1 hI' hL'; (try k_lt l1); (try k_sweep))
  k_with "subscriptTail Name Slice ref ref" => (k_here; (with_reducible rename TailF _ => htm9); (with_reducible show wpAny _ _ (subscriptTail _ (PySem.Expr.Slice _ _ none _) (Value.ref _) (Value.ref _)) _ _ _); k_dflt (refine' t_upto ?Fq9 ?Nq9 ?mq9 ?iq9 ?vq9 ?_ ?sq9 ?tq9; (case Fq9 => k_asm); (case Nq9 => k_asm); (case mq9 => k_mem); (case iq9 => with_reducible assumption); (case vq9 => omega); (case sq9 => with_unfolding_all rfl); (case tq9 => kmk_pure)); intro D' ws' h' F' N' l1 hI' hL'; (try k_lt l1); (try k_sweep))
  k_with "subscriptTail Name Slice ref ref" => (k_here; (with_reducible rename TailF _ => htm9); (with_reducible show wpAny _ _ (subscriptTail _ (PySem.Expr.Slice _ _ none _) (Value.ref _) (Value.ref _)) _ _ _); k_dflt (refine' t_upto1 ?Fq9 ?Nq9 ?mq9 ?iq9 ?vq9 ?ccq9 ?_ ?sq9 ?tq9; (case Fq9 => k_asm); (case Nq9 => k_asm); (case mq9 => k_mem); (case iq9 => with_reducible assumption); (case vq9 => omega); (case ccq9 => with_reducible assumption); (case sq9 => with_unfolding_all rfl); (case tq9 => kmk_pure)); intro D' ws' h' F' N' l1 hI' hL'; (try k_lt l1); (try k_sweep))
  k_with "compareOp NotEq ref ref" => (k_here; (with_reducible rename TailF _ => htm9); (with_reducible show wpAny _ _ (compareOp CmpOp.NotEq (Value.ref _) (Value.ref _)) _ _ _); k_dflt (refine' t_ne ?Nq9 ?m1q9 ?m2q9 ?i1q9 ?i2q9 ?eq9 ?uq9 ?_; (case Nq9 => k_asm); (case m1q9 => k_mem); (case m2q9 => k_mem); (case i1q9 => with_reducible assumption); (case i2q9 => with_reducible assumption); (case eq9 => first | exact TailF.pd (by with_reducible assumption) | exact TailF.pr (by with_reducible assumption)); (case uq9 => units_room)))
  k_with "subscriptTail Subscript" => (k_here; (with_reducible rename TailF _ => htm9); (with_reducible show wpAny _ _ (subscriptTail _ (PySem.Expr.Slice none none (some _) _) (Value.ref _) (Value.ref _)) _ _ _); k_dflt (refine' t_rev ?Fq9 ?Nq9 ?mq9 ?iq9 ?vq9 ?_ ?sq9; (case Fq9 => k_asm); (case Nq9 => k_asm); (case mq9 => k_mem); (case iq9 => with_reducible assumption); (case vq9 => with_reducible assumption); (case sq9 => with_unfolding_all rfl)); intro D' ws' h' F' N' l1 hI'; (try k_lt l1); (try k_sweep))
  k_with "subscriptTail Name BinOp ref int" => (k_here; (with_reducible rename TailF _ => htm9); (with_reducible show wpAny _ _ (subscriptTail _ _ (Value.ref _) (Value.int (Nat.cast (csz _) - 1) _)) _ _ _); k_dflt (refine' t_toldA ?Nq9 ?mq9 ?fq9 ?z1q9 ?z2q9 ?_ ?sq9; (case Nq9 => k_asm); (case mq9 => k_mem); (case fq9 => with_reducible assumption); (case z1q9 => with_reducible assumption); (case z2q9 => with_reducible assumption); (case sq9 => with_unfolding_all rfl)); intro t9)
  k_with "subscriptTail Name BinOp ref int" => (k_here; (with_reducible rename TailF _ => htm9); (with_reducible show wpAny _ _ (subscriptTail _ _ (Value.ref _) (Value.int (2 * _ - 1) _)) _ _ _); k_dflt (refine' t_toldB ?Nq9 ?mq9 ?fq9 ?z1q9 ?z2q9 ?_ ?sq9; (case Nq9 => k_asm); (case mq9 => k_mem); (case fq9 => with_reducible assumption); (case z1q9 => with_reducible assumption); (case z2q9 => with_reducible assumption); (case sq9 => with_unfolding_all rfl)); intro t9)
  k_with "subscriptTail Name Name ref int" => (k_here; (with_reducible rename TailF _ => htm9); (with_reducible show wpAny _ _ (subscriptTail _ _ (Value.ref _) (Value.int (Nat.cast _) _)) _ _ _); k_dflt (refine' t_toldC ?Nq9 ?mq9 ?fq9 ?z1q9 ?z2q9 ?z3q9 ?z4q9 ?_ ?sq9; (case Nq9 => k_asm); (case mq9 => k_mem); (case fq9 => with_reducible assumption); (case z1q9 => with_reducible assumption); (case z2q9 => with_reducible assumption); (case z3q9 => with_reducible assumption); (case z4q9 => with_reducible assumption); (case sq9 => with_unfolding_all rfl)); intro t9 htb9)
  k_with "subscriptTail Name Name ref int" => (k_here; (with_reducible rename TailF _ => htm9); (with_reducible show wpAny _ _ (subscriptTail _ _ (Value.ref _) (Value.int (Nat.cast (csz _)) _)) _ _ _); k_dflt (refine' t_fracA ?Nq9 ?mq9 ?fq9 ?z2q9 ?_ ?sq9; (case Nq9 => k_asm); (case mq9 => k_mem); (case fq9 => with_reducible assumption); (case z2q9 => with_reducible assumption); (case sq9 => with_unfolding_all rfl)); intro a9 t9 u9 c9 hm9)
  k_with "subscriptTail Name BinOp ref int" => (k_here; (with_reducible rename TailF _ => htm9); (with_reducible show wpAny _ _ (subscriptTail _ _ (Value.ref _) (Value.int (2 * Nat.cast (csz _)) _)) _ _ _); k_dflt (refine' t_fracB ?Nq9 ?mq9 ?fq9 ?z2q9 ?_ ?sq9; (case Nq9 => k_asm); (case mq9 => k_mem); (case fq9 => with_reducible assumption); (case z2q9 => with_reducible assumption); (case sq9 => with_unfolding_all rfl)); intro a9 t9 u9 c9 hm9)
  k_with "subscriptTail Name BinOp ref int" => (k_here; (with_reducible rename TailF _ => htm9); (with_reducible show wpAny _ _ (subscriptTail _ _ (Value.ref _) (Value.int (Nat.cast _ + 1) _)) _ _ _); k_dflt (refine' t_fracC ?Nq9 ?mq9 ?fq9 ?z2q9 ?z3q9 ?z4q9 ?_ ?sq9; (case Nq9 => k_asm); (case mq9 => k_mem); (case fq9 => with_reducible assumption); (case z2q9 => with_reducible assumption); (case z3q9 => with_reducible assumption); (case z4q9 => with_reducible assumption); (case sq9 => with_unfolding_all rfl)); intro a9 t9 u9 c9 hm9 htb9)
  k_with "compareOp NotEq ref ref" => (k_here; (with_reducible rename TailF _ => htm9); (with_reducible show wpAny _ _ (compareOp CmpOp.NotEq (Value.ref _) (Value.ref _)) _ _ _); k_dflt (refine' t_neT ?Nq9 ?m1q9 ?m2q9 ?e1q9 ?e2q9 ?uq9 ?_; (case Nq9 => k_asm); (case m1q9 => k_mem); (case m2q9 => k_mem); (case e1q9 => exact TailF.f1 (by with_reducible assumption)); (case e2q9 => exact TailF.f2 (by with_reducible assumption)); (case uq9 => units_room)))
  k_with "eval IfExp Compare BinOp BinOp" => (k_here; (with_reducible rename TailF _ => htm9); (fail_if_success (with_reducible rename WhichMark => hwm9)); (with_reducible rename Fr _ _ _ _ => kF9); (with_reducible rename News _ _ _ _ => kN9); focus (k_dflt (refine' which_cut kF9 kN9 ?hbq9 ?_ ?_; (case hbq9 => with_unfolding_all rfl)); (intro hwm9); (try k_fold); rotate_left; (intro x9 u9 h9 tk9 hx9 F9 N9); (obtain ⟨i9, hi9, hj9⟩ := nat_under hx9); (subst hi9); (clear hx9); (try k_sweep); (try k_fold)))
  k_with "call ref" => (k_here; (with_reducible rename TailF _ => htm9); (with_reducible show wpAny _ _ (call (Value.ref 283) [Value.int _ _, Value.int _ _, Value.int _ _] []) _ _ _); k_dflt (refine' CG.use (CG.eqI (told_c _ _ _ _ _ _)) ?k1q9 ?k2q9 ?k3q9 ?k4q9 ?k5q9 ?k6q9 ?k7q9 ?k8q9 ?k9q9 ?_; walk_at "my use"; (case k7q9 => exact brah_told (by with_reducible assumption) (by with_reducible assumption) (by with_reducible assumption) (by omega))); intro t9 h9 tk9 F9 N9; (try k_sweep); (try k_fold))
  k_with "subscriptTail Name Constant ref int" => (k_here; (with_reducible rename TailF _ => htm9); (with_reducible show wpAny _ _ (subscriptTail _ _ (Value.ref _) (Value.int _ _)) _ _ _); k_dflt (refine' t_item ?Nq9 ?mq9 ?aq9 ?bq9 ?xq9 ?_ ?sq9; (case Nq9 => k_asm); (case mq9 => k_mem); (case aq9 => decide); (case bq9 => decide); (case xq9 => rfl); (case sq9 => with_unfolding_all rfl)))
  k_with "call builtin:len" => (k_here; (with_reducible rename TailF _ => htm9); (with_reducible rename WhichMark => hwm8); (with_reducible show wpAny _ _ (call (Value.builtin "len") [Value.ref _]) _ _ _); k_dflt (refine' t_slen ?Nq9 ?mq9 ?sq9 ?fq9 ?_; (case Nq9 => k_asm); (case mq9 => k_mem); (case sq9 => with_reducible assumption); (case fq9 => exact take3_le _)))
  k_with "subscriptTail Subscript" => (k_here; (with_reducible rename TailF _ => htm9); (with_reducible rename WhichMark => hwm8); (with_reducible show wpAny _ _ (subscriptTail _ _ (Value.ref _) (Value.int _ _)) _ _ _); k_dflt (refine' t_sitem ?Nq9 ?mq9 ?iq9 ?aq9 ?bq9 ?cq9 ?_ ?sq9; (case Nq9 => k_asm); (case mq9 => k_mem); (case iq9 => with_reducible assumption); (case aq9 => omega); (case bq9 => omega); (case cq9 => omega); (case sq9 => with_unfolding_all rfl)); intro t9)
  k_with "compareOp Eq int int" => (k_here; (with_reducible rename TailF _ => htm9); with_reducible refine t_eqS ?_)
  trivial
theorem rows76 : True := by
  k_with "pyIter ref" => (k_here; (with_reducible show wpAny _ _ (pyIter (Value.ref _)) (fun it s₂ => LoopAtV _ _ _ _ _ _ _ _ _ it s₂) _ _); k_dflt ((refine' law_start ?y0q9 ?y1q9 ?y2q9 ?y3q9 ?y4q9 ?y5q9 ?y6q9 ?y7q9 ?y8q9 ?y9q9 ?y10q9 ?y11q9 ?y12q9 ?y13q9 ?y14q9 ?z1q9 ?z2q9 ?z3q9 ?z4q9 ?z5q9 ?z6q9 ?z8q9 ?z9q9 ?z10q9 ?z11q9 ?z7q9 ?zCq9 ?zkq9 ?ztq9); (case y0q9 => exact rfl); (case y13q9 => k_asm); (case y14q9 => k_asm); (case y12q9 => k_asm); (case y1q9 => with_unfolding_all rfl); (case y2q9 => with_unfolding_all rfl); (case y3q9 => with_unfolding_all rfl); (case y4q9 => with_unfolding_all rfl); (case y5q9 => with_unfolding_all rfl); (case y6q9 => with_unfolding_all rfl); (case y7q9 => with_unfolding_all rfl); (case y8q9 => with_unfolding_all rfl); (case y9q9 => with_unfolding_all rfl); (case y10q9 => with_unfolding_all rfl); (case y11q9 => with_unfolding_all rfl); (case z1q9 => k_mem); (case z2q9 => k_mem); (case z3q9 => k_mem); (case z4q9 => k_mem); (case z5q9 => k_mem); (case z6q9 => k_mem); (case z8q9 => k_mem); (case z9q9 => k_mem); (case z10q9 => k_mem); (case z11q9 => with_reducible assumption); (case z7q9 => k_mem); (case zCq9 => ((unfold OwnOff); (simp only [List.forall_mem_cons, List.not_mem_nil, false_implies, implies_true, and_true]); (repeat' refine And.intro ?_ ?_) <;> (refine neN ?_; omega))); (case zkq9 => with_reducible assumption); (intro c9 T9 R9 t9 u9 h9 tk9 hlt9 hrt9 hsl9 hTR9 hoff9 hfa9 hlp9 F9 N9); (have hmk9 := LoopMark.mk hTR9); (obtain ⟨t, st9, ap9, sz9, szt9, pv9, tv9, fv9, pn9, tn9, fn9, cl9⟩ := c9); (obtain ⟨⟨s1, s2, s3, s4, hst9⟩, hap9, ⟨hfl9, hfr9⟩⟩ := hfa9); (obtain ⟨hlq9, hsz9, hpv9, htv9, ⟨vc9, hcl9⟩⟩ := hlp9); (dsimp only at hlt9 hst9 hap9 hfl9 hfr9 hlq9 hsz9 hpv9 htv9 hcl9); (subst hsz9); (obtain ⟨v1, hv1, a1, b1, d1, e1, hve1, hm1⟩ := hfr9 t (by omega)); (obtain ⟨v2, hv2, a2, b2, d2, e2, hve2, hm2⟩ := hfr9 (t + 1) (by omega)); (subst hve1 hve2); (have hst8 := hTR9 _ hst9); (have hm3 := hTR9 _ hm1); (have hm4 := hTR9 _ hm2); (have hTF := turnF (by with_reducible assumption) hlt9 hlq9); (have hpl9 : pv9.length = t := by (rw [hpv9.length]; simp [partsL])); (have htl9 : tv9.length = t := by (rw [htv9.length]; simp [toldL])); (dsimp only [LLed, LNam] at F9 N9); (simp only [List.cons_append, List.nil_append] at N9); (try dsimp only [LLed, LNam]); (try k_fold)); (try k_sweep))
  trivial
theorem law_post (args : List WData) : PySem.Challenge.rw_xm0038_01.row.claim.post args (.bool true) args = true := postW_of (by wrow_shape) (by wtm_val) (by w_fin)
local macro_rules | `(tactic| wrow_close) => `(tactic| ((with_reducible show GoodW _ _ _ _ _ (.ok (.ret (.bool _))) _); (with_reducible refine' goodW_bool ?gF ?gg (raisesW_false ?gn) ?gp ?go); (case gF => with_reducible assumption); (case gg => with_reducible assumption); (case go => exact rfl); (case gn => wrow_none_raised); (case gp => with_reducible exact law_post _); walk_say "CLOSE law"))
end Mine
open Mine
local macro_rules | `(tactic| walk_at $s:str) => `(tactic| k_extra $s)
local macro_rules | `(tactic| k_mem) => `(tactic| first | with_reducible assumption | with_reducible exact List.mem_cons_self | (with_reducible refine List.mem_cons_of_mem _ ?_; k_mem))
local macro_rules | `(tactic| wrow_close) => `(tactic| ((with_reducible show GoodW _ _ _ _ _ (.ok (.ret (.bool _))) _); (with_reducible refine' goodW_bool ?gF ?gg (raisesW_false ?gn) ?gp ?go); (case gF => with_reducible assumption); (case gg => with_reducible assumption); (case go => exact rfl); (case gn => wrow_none_raised); (case gp => with_reducible exact law_post _); walk_say "CLOSE law"))
set_option rowWalk.seconds 0
theorem PySem.Challenge.cw_xm0038_01_holds : PySem.Challenge.rw_xm0038_01.Holds := by
  refine Mine.hd ?_
  k_go0
  (all_goals w_top off)
  (all_goals try k_fold)
  k_steps
