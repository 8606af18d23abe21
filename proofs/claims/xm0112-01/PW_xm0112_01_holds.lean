import PyProof.Rows.All
import Wide.All
import OpenK.AllK
import Wide.FinOn
import PySem.Challenge.RW_xm0112_01

set_option Elab.async false

-- part XTop
namespace Mine
section
open PySem PySem.W PyProof.Rows
set_option maxRecDepth 100000 in
set_option maxHeartbeats 8000000 in
open_top hd for PySem.Challenge.rw_xm0112_01
end
end Mine

-- part XA
namespace Mine
section
open PySem PySem.W PyProof.Rows PySem.Calls PySem.Spec
theorem fresh_XA : True := by w_top off; k_with_none; trivial
def ldF : Nat → Int → Int → Int
  | 0, n, _ => n
  | f + 1, n, b => if b * b ≤ n then (if Int.fmod n b = 0 then b else ldF f n (b + if b = 2 then 1 else 2)) else n
def ldI (n b : Int) : Int := ldF (n + 2 - b).toNat n b

theorem ldF_enough (n : Int) : ∀ (f g : Nat) (b : Int), 2 ≤ b → (n + 2 - b).toNat ≤ f → (n + 2 - b).toNat ≤ g → ldF f n b = ldF g n b := by
  intro f
  induction f with
  | zero =>
    intro g b hb h1 _
    cases g with
    | zero => rfl
    | succ g =>
      have h2 : n < b := by omega
      have h3 : b ≤ b * b := by
        have := Int.mul_le_mul_of_nonneg_left (show (1:Int) ≤ b by omega) (show 0 ≤ b by omega)
        omega
      show n = ldF (g+1) n b
      unfold ldF
      rw [if_neg (by omega)]
  | succ f ih =>
    intro g b hb h1 h2
    cases g with
    | zero =>
      have h2 : n < b := by omega
      have h3 : b ≤ b * b := by
        have := Int.mul_le_mul_of_nonneg_left (show (1:Int) ≤ b by omega) (show 0 ≤ b by omega)
        omega
      show ldF (f+1) n b = n
      unfold ldF
      rw [if_neg (by omega)]
    | succ g =>
      unfold ldF
      split
      · split
        · rfl
        · apply ih
          · split <;> omega
          · split <;> omega
          · split <;> omega
      · rfl
theorem ldI_step {n b : Int} (hb : 2 ≤ b) : ldI n b = if b * b ≤ n then (if Int.fmod n b = 0 then b else ldI n (b + if b = 2 then 1 else 2)) else n := by
  unfold ldI
  rw [ldF_enough n (n + 2 - b).toNat ((n + 2 - b).toNat + 1) b hb (Nat.le_refl _) (by omega)]
  show (if b * b ≤ n then (if Int.fmod n b = 0 then b else ldF (n + 2 - b).toNat n (b + if b = 2 then 1 else 2)) else n) = _
  split
  · split
    · rfl
    · apply ldF_enough
      · split <;> omega
      · split <;> omega
      · split <;> omega
  · rfl

def TellI (w : World) (mean : ExcName → Option Value) (mg mb : Str → Option Value) (f : Addr) (vs : List Value) (need : Nat) (P : Prop) (R : Tok → Value) : Prop :=
  ∀ (dp un : Nat) (gd : Option (List Code)) (cn : Str) (cs : Scope) (a : Addr) (ccd : Value) (cl : List (Str × Addr)) (outer : List Env) (A₀ : Around) (base h₀ : Heap) (L : Addr) (m : Str → Option Value) (news : List (Addr × Obj)) (s : Shared) (Q E : Value → Shared → Prop),
    Below A₀ base outer h₀ → Fr h₀ L s.heap m → (hd.heap_39 w.params).In h₀ → News h₀ L s.heap news → Top hd.view_39 (looseW hd.view_39 []) mean mg mb h₀ → cs.kind = .function →
    dp + need < recursionLimit → un + 8 * need < cLine →
    (P → ∀ (t : Tok) (h' : Heap) (tk' : Nat), Fr h₀ L h' m → News h₀ L h' news → Q (R t) { s with heap := h', toks := tk' }) →
    wpAny (model PySem.Challenge.rw_xm0112_01.row.prog w) (ktrTop dp un gd cn cs L a ccd cl outer) (call (.ref f) vs) Q E s


theorem sq_ge {f : Int} (h : 2 ≤ f) : 2 * f ≤ f * f := Int.mul_le_mul_of_nonneg_right h (by omega)
theorem ldF_good (n : Int) (hn : 1 < n) : ∀ (f : Nat) (b : Int), 2 ≤ b → 2 ≤ ldF f n b ∧ ldF f n b ≤ n ∧ Int.fmod n (ldF f n b) = 0 := by
  intro f
  induction f with
  | zero => intro b _; exact ⟨by show 2 ≤ n; omega, Int.le_refl _, Int.fmod_self⟩
  | succ f ih =>
    intro b hb
    unfold ldF
    split
    · rename_i h
      split
      · rename_i h2
        have := sq_ge hb
        exact ⟨hb, by omega, h2⟩
      · apply ih
        split <;> omega
    · exact ⟨by omega, Int.le_refl _, Int.fmod_self⟩
theorem ld_good {n b : Int} (hn : 1 < n) (hb : 2 ≤ b) : 2 ≤ ldI n b ∧ ldI n b ≤ n ∧ Int.fmod n (ldI n b) = 0 := ldF_good n hn _ b hb

theorem ld_keep2 {n b f : Int} (hn2 : n < 2 ^ 40) (h : 2 ≤ f ∧ f < 2 ^ 41 ∧ ldI n f = ldI n b) (h1 : f * f ≤ n) (h2 : Int.fmod n f ≠ 0) (h3 : f = 2) : 2 ≤ f + 1 ∧ f + 1 < 2 ^ 41 ∧ ldI n (f + 1) = ldI n b := by
  obtain ⟨a, _, c⟩ := h
  have := sq_ge a
  rw [ldI_step a, if_pos h1, if_neg h2, if_pos h3] at c
  exact ⟨by omega, by omega, c⟩
theorem ld_keep1 {n b f : Int} (hn2 : n < 2 ^ 40) (h : 2 ≤ f ∧ f < 2 ^ 41 ∧ ldI n f = ldI n b) (h1 : f * f ≤ n) (h2 : Int.fmod n f ≠ 0) (h3 : f ≠ 2) : 2 ≤ f + 2 ∧ f + 2 < 2 ^ 41 ∧ ldI n (f + 2) = ldI n b := by
  obtain ⟨a, _, c⟩ := h
  have := sq_ge a
  rw [ldI_step a, if_pos h1, if_neg h2, if_neg h3] at c
  exact ⟨by omega, by omega, c⟩
theorem ld_end1 {n b f : Int} (a : 2 ≤ f) (c : ldI n f = ldI n b) (h1 : f * f ≤ n) (h2 : Int.fmod n f = 0) : f = ldI n b := by
  rw [ldI_step a, if_pos h1, if_pos h2] at c
  exact c
theorem ld_end2 {n b f : Int} (a : 2 ≤ f) (c : ldI n f = ldI n b) (h1 : ¬ f * f ≤ n) : n = ldI n b := by
  rw [ldI_step a, if_neg h1] at c
  exact c
set_option maxRecDepth 100000 in
set_option maxHeartbeats 8000000 in
theorem ld_tell (w : World) (mean : ExcName → Option Value) (mg mb : Str → Option Value) (n b : Int) (t1 t2 : Tok) (hn : 1 ≤ n) (hn2 : n < 2 ^ 40) (hb : 2 ≤ b) (hb2 : b < 2 ^ 40) :
    TellI w mean mg mb 21 [.int n t1, .int b t2] 1 (1 < n → 2 ≤ ldI n b ∧ ldI n b ≤ n ∧ Int.fmod n (ldI n b) = 0) (fun t => .int (ldI n b) t) := by
  unfold TellI
  k_fill
  intro dp un gd cn cs a ccd cl outer A₀ base h₀ L m news s Q E B F X N T hk hd hu hret
  replace hret := hret fun h => ld_good h hb
  refine wpAny_call ?_
  (k_dflt cell_enter)
  k_with "exec While Compare cons nil" => k_while (fun _ found => 2 ≤ found ∧ found < 2 ^ 41 ∧ ldI n found = ldI n b) (fun _ found => (n + 2 - found).toNat) "found"
  k_with "state" => first | exact ld_keep2 hn2 ⟨by assumption, by assumption, by assumption⟩ (by assumption) (by assumption) (by assumption) | exact ld_keep1 hn2 ⟨by assumption, by assumption, by assumption⟩ (by assumption) (by assumption) (by assumption) | exact ⟨hb, by omega, rfl⟩
  k_with "measure" => ((have hsq := sq_ge (by assumption)); omega)
  k_steps
  all_goals first
    | (refine cb_retI hret ?_ (by assumption) (by assumption); exact ld_end1 (by assumption) (by assumption) (by assumption) (by assumption))
    | (refine cb_retI hret ?_ (by assumption) (by assumption); exact ld_end2 (by assumption) (by assumption) (by assumption))
end
end Mine

-- part XB
namespace Mine
section
open PySem PySem.W PyProof.Rows PySem.Calls PySem.Spec
theorem fresh_XB : True := by w_top off; k_with_none; trivial
def Stop (P : Prop) : Prop := P
theorem stop_mk {P : Prop} (h : Stop P) : P := h
theorem stop_out {P : Prop} (h : P) : Stop P := h
theorem fr_name {h₀ h : Heap} {L : Addr} {m : Str → Option Value} (x : Str) {v : Value} (F : Fr h₀ L h m) (hv : m x = some v) : Fr h₀ L h (fun y => if y = x then some v else m y) := by
  have e : (fun y => if y = x then some v else m y) = m := by
    funext y
    by_cases hy : y = x
    · rw [if_pos hy, hy, hv]
    · rw [if_neg hy]
  rw [e]
  exact F

theorem tellI_use {w : World} {mean : ExcName → Option Value} {mg mb : Str → Option Value} {f : Addr} {vs : List Value} {need : Nat} {P : Prop} {R : Tok → Value}
    {dp un : Nat} {gd : Option (List Code)} {cn : Str} {cs : Scope} {a : Addr} {ccd : Value} {cl : List (Str × Addr)} {outer : List Env} {A₀ : Around} {base h₀ : Heap} {L : Addr} {m : Str → Option Value} {news : List (Addr × Obj)} {s : Shared} {Q E : Value → Shared → Prop}
    (C : TellI w mean mg mb f vs need P R) (B : Below A₀ base outer h₀) (F : Fr h₀ L s.heap m) (X : (hd.heap_39 w.params).In h₀) (N : News h₀ L s.heap news) (T : Top hd.view_39 (looseW hd.view_39 []) mean mg mb h₀) (hk : cs.kind = .function)
    (hd : dp + need < recursionLimit) (hu : un + 8 * need < cLine)
    (ret : P → ∀ (t : Tok) (h' : Heap) (tk' : Nat), Fr h₀ L h' m → News h₀ L h' news → Q (R t) { s with heap := h', toks := tk' }) :
    wpAny (model PySem.Challenge.rw_xm0112_01.row.prog w) (ktrTop dp un gd cn cs L a ccd cl outer) (call (.ref f) vs) Q E s := C _ _ _ _ _ _ _ _ _ _ _ _ _ _ _ _ _ _ B F X N T hk hd hu ret

def innF : Nat → Int → Int → Int → Int × Int
  | 0, n, _, c => (n, c)
  | f + 1, n, p, c => if Int.fmod n p = 0 then innF f (Int.fdiv n p) p (c + 1) else (n, c)
def innI (n p c : Int) : Int × Int := innF n.toNat n p c

theorem fdiv_small {n p : Int} (hn : 1 ≤ n) (hp : 2 ≤ p) (h : Int.fmod n p = 0) : 1 ≤ Int.fdiv n p ∧ 2 * Int.fdiv n p ≤ n ∧ p * Int.fdiv n p = n := by
  have e := Int.mul_fdiv_add_fmod n p
  rw [h, Int.add_zero] at e
  have h1 : 1 ≤ Int.fdiv n p := by
    rcases Int.lt_or_le (Int.fdiv n p) 1 with h2 | h2
    · have : p * Int.fdiv n p ≤ p * 0 := Int.mul_le_mul_of_nonneg_left (by omega) (by omega)
      omega
    · exact h2
  have h3 : 2 * Int.fdiv n p ≤ p * Int.fdiv n p := Int.mul_le_mul_of_nonneg_right hp (by omega)
  exact ⟨h1, by omega, e⟩
theorem innF_enough : ∀ (f g : Nat) (n p c : Int), 1 ≤ n → 2 ≤ p → n.toNat ≤ f → n.toNat ≤ g → innF f n p c = innF g n p c := by
  intro f
  induction f with
  | zero => intro g n p c hn; omega
  | succ f ih =>
    intro g n p c hn hp h1 h2
    cases g with
    | zero => omega
    | succ g =>
      unfold innF
      split
      · rename_i h
        have := fdiv_small hn hp h
        exact ih _ _ _ _ (by omega) hp (by omega) (by omega)
      · rfl
theorem innI_step {n p c : Int} (hn : 1 ≤ n) (hp : 2 ≤ p) : innI n p c = if Int.fmod n p = 0 then innI (Int.fdiv n p) p (c + 1) else (n, c) := by
  unfold innI
  rw [innF_enough n.toNat (n.toNat + 1) n p c hn hp (Nat.le_refl _) (by omega)]
  show (if Int.fmod n p = 0 then innF n.toNat (Int.fdiv n p) p (c + 1) else (n, c)) = _
  split
  · rename_i h
    have := fdiv_small hn hp h
    exact innF_enough _ _ _ _ _ (by omega) hp (by omega) (by omega)
  · rfl
theorem innF_good : ∀ (f : Nat) (n p c : Int), 1 ≤ n → 2 ≤ p → 1 ≤ (innF f n p c).1 ∧ (innF f n p c).1 ≤ n ∧ c ≤ (innF f n p c).2 ∧ (innF f n p c).2 + (innF f n p c).1 ≤ n + c := by
  intro f
  induction f with
  | zero => intro n p c hn hp; show 1 ≤ n ∧ n ≤ n ∧ c ≤ c ∧ c + n ≤ n + c; omega
  | succ f ih =>
    intro n p c hn hp
    unfold innF
    split
    · rename_i h
      have h1 := fdiv_small hn hp h
      have := ih (Int.fdiv n p) p (c + 1) (by omega) hp
      omega
    · show 1 ≤ n ∧ n ≤ n ∧ c ≤ c ∧ c + n ≤ n + c; omega
/-- where the first number is a multiple, the end is less -/
theorem innI_less {n p : Int} (hn : 1 ≤ n) (hp : 2 ≤ p) (h : Int.fmod n p = 0) : 1 ≤ (innI n p 0).1 ∧ (innI n p 0).1 < n ∧ 1 ≤ (innI n p 0).2 ∧ (innI n p 0).2 ≤ n := by
  rw [innI_step hn hp, if_pos h]
  have h1 := fdiv_small hn hp h
  have h2 := innF_good (Int.fdiv n p).toNat (Int.fdiv n p) p (0 + 1) (by omega) hp
  unfold innI
  omega

theorem inn_keep {p nn x y : Int} (hp : 2 ≤ p) (h1 : 1 ≤ x) (h2 : x ≤ nn) (h3 : 0 ≤ y) (h4 : y + x ≤ nn) (h5 : innI x p y = innI nn p 0) (h : Int.fmod x p = 0) :
    1 ≤ Int.fdiv x p ∧ Int.fdiv x p ≤ nn ∧ 0 ≤ y + 1 ∧ y + 1 + Int.fdiv x p ≤ nn ∧ innI (Int.fdiv x p) p (y + 1) = innI nn p 0 := by
  have h6 := fdiv_small h1 hp h
  rw [innI_step h1 hp, if_pos h] at h5
  exact ⟨by omega, by omega, by omega, by omega, h5⟩
theorem inn_less {p x : Int} (hp : 2 ≤ p) (h1 : 1 ≤ x) (h : Int.fmod x p = 0) : (Int.fdiv x p).toNat < x.toNat := by
  have h6 := fdiv_small h1 hp h
  omega
theorem inn_end {p nn x y : Int} (hp : 2 ≤ p) (h1 : 1 ≤ x) (h2 : x ≤ nn) (h5 : innI x p y = innI nn p 0) (h0 : Int.fmod nn p = 0) (h : Int.fmod x p ≠ 0) : innI nn p 0 = (x, y) ∧ x < nn := by
  rw [innI_step h1 hp, if_neg h] at h5
  refine ⟨h5.symm, ?_⟩
  rcases Int.lt_or_eq_of_le h2 with h6 | h6
  · exact h6
  · rw [h6] at h; exact absurd h0 h

def nextP (p : Int) : Int := if p = 2 then 3 else p + 2
def pfF : Nat → Int → Int → List (Int × Int)
  | 0, _, _ => []
  | f + 1, n, b => if 1 < n then (ldI n b, (innI n (ldI n b) 0).2) :: pfF f (innI n (ldI n b) 0).1 (nextP (ldI n b)) else []
def pfG (n b : Int) : List (Int × Int) := pfF n.toNat n b
def pfI (n : Int) : List (Int × Int) := pfG n 2
theorem nextP_ge {p : Int} (h : 2 ≤ p) : 2 ≤ nextP p := by unfold nextP; split <;> omega
theorem pfF_enough : ∀ (f g : Nat) (n b : Int), 2 ≤ b → n.toNat ≤ f → n.toNat ≤ g → pfF f n b = pfF g n b := by
  intro f
  induction f with
  | zero =>
    intro g n b hb h1 h2
    cases g with
    | zero => rfl
    | succ g => show [] = pfF (g+1) n b; unfold pfF; rw [if_neg (by omega)]
  | succ f ih =>
    intro g n b hb h1 h2
    cases g with
    | zero => show pfF (f+1) n b = []; unfold pfF; rw [if_neg (by omega)]
    | succ g =>
      unfold pfF
      split
      · rename_i h
        have hg := ld_good h hb
        have hl := innI_less (by omega) hg.1 hg.2.2
        rw [ih g _ _ (nextP_ge hg.1) (by omega) (by omega)]
      · rfl
theorem pfG_step {n b : Int} (hb : 2 ≤ b) : pfG n b = if 1 < n then (ldI n b, (innI n (ldI n b) 0).2) :: pfG (innI n (ldI n b) 0).1 (nextP (ldI n b)) else [] := by
  unfold pfG
  rw [pfF_enough n.toNat (n.toNat + 1) n b hb (Nat.le_refl _) (by omega)]
  show (if 1 < n then (ldI n b, (innI n (ldI n b) 0).2) :: pfF n.toNat (innI n (ldI n b) 0).1 (nextP (ldI n b)) else []) = _
  split
  · rename_i h
    have hg := ld_good h hb
    have hl := innI_less (by omega) hg.1 hg.2.2
    rw [pfF_enough n.toNat _ _ _ (nextP_ge hg.1) (by omega) (Nat.le_refl _)]
  · rfl

def TellR (w : World) (mean : ExcName → Option Value) (mg mb : Str → Option Value) (f : Addr) (vs : List Value) (need : Nat) (R : List (Addr × Obj) → Value → Prop) : Prop :=
  ∀ (dp un : Nat) (gd : Option (List Code)) (cn : Str) (cs : Scope) (a : Addr) (ccd : Value) (cl : List (Str × Addr)) (outer : List Env) (A₀ : Around) (base h₀ : Heap) (L : Addr) (m : Str → Option Value) (news : List (Addr × Obj)) (s : Shared) (Q E : Value → Shared → Prop),
    Below A₀ base outer h₀ → Fr h₀ L s.heap m → (hd.heap_39 w.params).In h₀ → News h₀ L s.heap news → Top hd.view_39 (looseW hd.view_39 []) mean mg mb h₀ → cs.kind = .function →
    dp + need < recursionLimit → un + 8 * need < cLine →
    (∀ (r : Value) (tl : List (Addr × Obj)) (h' : Heap) (tk' : Nat), Fr h₀ L h' m → News h₀ L h' (tl ++ news) → (∀ q ∈ news, ∀ p ∈ tl, q.1 < p.1) → R tl r → Q r { s with heap := h', toks := tk' }) →
    wpAny (model PySem.Challenge.rw_xm0112_01.row.prog w) (ktrTop dp un gd cn cs L a ccd cl outer) (call (.ref f) vs) Q E s

abbrev pairD (p : Int × Int) : Dat := .tuple [.int p.1, .int p.2]
/-- the list of pairs that prime_factors gives back -/
def PfOut (n : Int) (tl : List (Addr × Obj)) (r : Value) : Prop := ∃ (a : Addr) (vs : List Value) (c : Nat), r = .ref a ∧ (a, listOf vs.toArray c) ∈ tl ∧ DatAll tl vs ((pfI n).map pairD)

local macro_rules | `(tactic| walk_at "t_go") => `(tactic| ((case k1 => k_asm); (case k2 => k_asm); (case k3 => k_asm); (case k4 => k_asm); (case k5 => k_asm); (case kK => first | exact rfl | assumption); (case kd => ktr_room); (case ku => ktr_units)))
local macro_rules | `(tactic| walk_at "call ref") => `(tactic| (k_here; (with_reducible show wpAny _ _ (call (Value.ref 21) [Value.int _ _, Value.int _ _]) _ _ _); k_dflt (refine' tellI_use (ld_tell _ _ _ _ _ _ _ _ ?p1 ?p2 ?p3 ?p4) ?k1 ?k2 ?k3 ?k4 ?k5 ?kK ?kd ?ku ?_; (case p1 => omega); (case p2 => omega); (case p3 => omega); (case p4 => omega); walk_at "t_go"; intro hP9 t9 h9 tk9 F9 N9; (try (obtain ⟨hg1, hg2, hg3⟩ := hP9 (by omega))); (try dsimp only); (try k_fold))))
local macro_rules | `(tactic| k_all) => `(tactic| assumption)


def PfInv (n : Int) (lst : Addr) (news : List (Addr × Obj)) (k : Nat) (m₁ : Str → Option Value) (nx : List (Addr × Obj)) : Prop :=
  ∃ (nn p : Int) (t t' : Tok) (vs : List Value) (c : Nat) (ps : List (Int × Int)) (tl : List (Addr × Obj)),
    m₁ (Str.ofString "n") = some (.int nn t) ∧ m₁ (Str.ofString "prime") = some (.int p t') ∧ m₁ (Str.ofString "found") = some (.ref lst) ∧
    nx = (lst, listOf vs.toArray c) :: (tl ++ news) ∧ (∀ q ∈ tl ++ news, q.1 ≠ lst) ∧ (∀ q ∈ news, ∀ p ∈ tl, q.1 < p.1) ∧ DatAll tl vs (ps.map pairD) ∧
    1 ≤ nn ∧ nn ≤ n ∧ 2 ≤ p ∧ p < 2 ^ 25 ∧ ps ++ pfG nn p = pfI n ∧ (ps.length : Int) + nn ≤ n ∧ k = nn.toNat

theorem allLt_append {d : Addr} : ∀ {a b : List (Addr × Obj)}, AllLt d (a ++ b) → ∀ p ∈ a ++ b, p.1 < d := fun h => ktn_ltOf h
theorem pf_step {g' h' : Heap} {L' lst T D : Addr} {s : Shared} {Q : Flow → Shared → Prop} {n nn p x y : Int} {news tl : List (Addr × Obj)} {vs : List Value} {c tk : Nat} {ps : List (Int × Int)} {m₂ : Str → Option Value} {tx tp t9 ty : Tok} {o : Obj} {z : Int}
    (F : Fr g' L' h' m₂)
    (N : News g' L' h' ((T, { cls := .type "tuple", data := .seq #[.int (ldI nn p) t9, .int y ty] }) :: (D, o) :: (lst, listOf (vs.toArray.push (.ref T)) (c + 1)) :: (tl ++ news)))
    (en : m₂ (Str.ofString "n") = some (.int x tx)) (ep : m₂ (Str.ofString "prime") = some (.int z tp)) (ef : m₂ (Str.ofString "found") = some (.ref lst)) (ez : z = nextP (ldI nn p))
    (off : ∀ q ∈ tl ++ news, q.1 ≠ lst) (lo : ∀ q ∈ news, ∀ p ∈ tl, q.1 < p.1) (hT : D < T ∧ lst < T ∧ AllLt T (tl ++ news)) (hD : DatAll tl vs (ps.map pairD))
    (b0 : 1 < nn) (b2 : nn ≤ n) (b3 : 2 ≤ p) (hn2 : n < 2 ^ 24) (hps : ps ++ pfG nn p = pfI n) (hlen : (ps.length : Int) + nn ≤ n)
    (h1 : 1 ≤ x) (h2 : x ≤ nn) (h5 : innI x (ldI nn p) y = innI nn (ldI nn p) 0) (h : Int.fmod x (ldI nn p) ≠ 0) :
    WhileStep2 g' L' s (PfInv n lst news) Q nn.toNat .next { s with heap := h', toks := tk } := by
  obtain ⟨hg1, hg2, hg3⟩ := ld_good b0 b3
  obtain ⟨e, hlt⟩ := inn_end hg1 h1 h2 h5 hg3 h
  have hAll := ktn_ltOf hT.2.2
  rw [List.push_toArray] at N
  refine ⟨h', tk, m₂, (lst, listOf (vs ++ [Value.ref T]).toArray (c + 1)) :: (((T, { cls := .type "tuple", data := .seq #[.int (ldI nn p) t9, .int y ty] }) :: tl) ++ news), x.toNat, rfl, F, ?_, by omega,
    x, nextP (ldI nn p), tx, tp, vs ++ [Value.ref T], c + 1, ps ++ [(ldI nn p, y)], (T, { cls := .type "tuple", data := .seq #[.int (ldI nn p) t9, .int y ty] }) :: tl, en, ez ▸ ep, ef, rfl, ?_, ?_, ?_, h1, by omega, nextP_ge hg1, ?_, ?_, ?_, rfl⟩
  · intro q hq
    rcases List.mem_cons.mp hq with rfl | hq
    · exact N _ (.tail _ (.tail _ (.head _)))
    · rcases List.mem_append.mp hq with hq | hq
      · rcases List.mem_cons.mp hq with rfl | hq
        · exact N _ (.head _)
        · exact N _ (.tail _ (.tail _ (.tail _ (List.mem_append.mpr (.inl hq)))))
      · exact N _ (.tail _ (.tail _ (.tail _ (List.mem_append.mpr (.inr hq)))))
  · intro q hq
    rcases List.mem_cons.mp hq with rfl | hq
    · exact Nat.ne_of_gt hT.2.1
    · exact off q hq
  · intro q hq r hr
    rcases List.mem_cons.mp hr with rfl | hr
    · exact hAll q (List.mem_append.mpr (.inr hq))
    · exact lo q hq r hr
  · rw [List.map_append]
    refine DatAll.append (DatAll.mono (fun _ hp => .tail _ hp) hD) (.one ?_)
    exact .tuple (vs := [.int (ldI nn p) t9, .int y ty]) (n := 0) (.head _) (.cons (.int _ _) (.cons (.int _ _) .nil))
  · unfold nextP; split <;> omega
  · rw [← hps, pfG_step b3, if_pos b0, e, List.append_assoc]
    rfl
  · rw [List.length_append]
    show ((ps.length + 1 : Nat) : Int) + x ≤ n
    omega
theorem pf_end {n nn p : Int} {l : Addr} {vs : List Value} {c : Nat} {tl : List (Addr × Obj)} {ps : List (Int × Int)} (hD : DatAll tl vs (ps.map pairD)) (b3 : 2 ≤ p) (hps : ps ++ pfG nn p = pfI n) (h : ¬ 1 < nn) : PfOut n ((l, listOf vs.toArray c) :: tl) (.ref l) := by
  rw [pfG_step b3, if_neg h, List.append_nil] at hps
  subst hps
  exact ⟨l, vs, c, rfl, .head _, DatAll.mono (fun _ hp => .tail _ hp) hD⟩

set_option maxRecDepth 100000 in
set_option maxHeartbeats 8000000 in
theorem pf_tell (w : World) (mean : ExcName → Option Value) (mg mb : Str → Option Value) (n : Int) (t1 : Tok) (hn : 1 ≤ n) (hn2 : n < 2 ^ 24) :
    TellR w mean mg mb 35 [.int n t1] 2 (PfOut n) := by
  unfold TellR
  k_fill
  intro dp un gd cn cs a ccd cl outer A₀ base h₀ L m news s Q E B F X N T hk hd hu hret
  refine wpAny_call ?_
  (k_dflt cell_enter)
  k_with "exec While Compare cons nil" => refine stop_mk ?_
  k_steps
  refine stop_out ?_
  rename Fr _ _ _ _ => F1
  rename News _ _ _ _ => N1
  rename ∀ (p : Addr × Obj), p ∈ news → _ => lo1
  refine While_inv2 (PfInv n _ news) F1 (fun q hq => N1 q (.tail _ hq)) ⟨n, 2, _, _, [], 0, [], [], rfl, rfl, rfl, rfl, ?_, ?_, .nil, hn, by omega, by omega, by omega, rfl, by simp, rfl⟩ ?_
  · intro q hq e
    exact absurd (lo1 q hq) (by rw [e]; exact Nat.lt_irrefl _)
  · intro q _ p hp
    cases hp
  clear F1 N1
  rintro k m₁ nx h₁ tk₁ F₂ N₂ ⟨nn, p, t, t', vs, c, ps, tl, e1, e2, e3, rfl, off, lo, hD, b1, b2, b3, b4, hps, hlen, rfl⟩
  have F₃ := fr_name (Str.ofString "n") (fr_name (Str.ofString "prime") (fr_name (Str.ofString "found") F₂ e3) ((if_neg (by decide)).trans e2)) ((if_neg (by decide)).trans ((if_neg (by decide)).trans e1))
  clear F₂
  have hvs : vs.toArray.size ≤ sizeLine := by rw [sizeLine_eq, List.size_toArray, hD.length, List.length_map]; omega
  try k_fold
  k_with_none
  k_with "exec While Compare cons nil" => k_while (fun _ x y => 1 ≤ x ∧ x ≤ nn ∧ 0 ≤ y ∧ y + x ≤ nn ∧ innI x (ldI nn p) y = innI nn (ldI nn p) 0) (fun _ x _ => x.toNat) "n" "many"
  k_with "state" => first | exact inn_keep (by assumption) (by assumption) (by assumption) (by assumption) (by assumption) (by assumption) (by assumption) | exact ⟨b1, Int.le_refl _, by omega, by omega, rfl⟩
  k_with "measure" => exact inn_less (by assumption) (by assumption) (by assumption)
  k_steps
  · exact pf_step (by assumption) (by assumption) rfl rfl rfl (by simp only [nextP, if_pos (by assumption : ldI nn p = 2)]) off lo (by assumption) hD (by assumption) b2 b3 hn2 hps hlen (by assumption) (by assumption) (by assumption) (by assumption)
  · exact pf_step (by assumption) (by assumption) rfl rfl rfl (by simp only [nextP, if_neg (by assumption : ¬ ldI nn p = 2)]) off lo (by assumption) hD (by assumption) b2 b3 hn2 hps hlen (by assumption) (by assumption) (by assumption) (by assumption)
  · refine hret _ ((_, listOf vs.toArray c) :: tl) _ _ (by assumption) (by assumption) ?_ (pf_end hD b3 hps (by assumption))
    intro q hq r hr
    rcases List.mem_cons.mp hr with rfl | hr
    · exact lo1 q hq
    · exact lo q hq r hr
end
end Mine

-- part XC0
namespace Mine
section
open PySem PySem.W PyProof.Rows PySem.Calls PySem.Spec
section Comp2
variable {prog : Program} {w : World} {A : Around} {E : Value → Shared → Prop} {R : Result → Shared → Prop} {s : Shared}

abbrev LC2 (elt : Expr) (x : Str) (px : Pos) (iter : Expr) (y : Str) (py : Pos) (iter2 : Expr) (scope : Scope) (pos : Pos) : Expr :=
  .ListComp elt [⟨.Name x px, iter, [], 0⟩, ⟨.Name y py, iter2, [], 0⟩] scope pos

theorem turn_in (elt : Expr) (x : Str) (px : Pos) (iter : Expr) (y : Str) (py : Pos) (iter2 : Expr) (scope : Scope) (pos : Pos) (it acc : Value) (env : Env) :
    compTurn (LC2 elt x px iter y py iter2 scope pos) 1 it acc env = (standAt iter2.pos >>= fun _ => pyNext it >>= fun r => match r with
      | none => pure (.done .next)
      | some v => letOwnedTupleGo (.Name y py) it v >>= fun _ => assign (.Name y py) env v >>= fun _ =>
        (eval elt env >>= fun x => call (.builtin "list.append") [acc, x] >>= fun _ => pure ()) >>= fun _ =>
          again (.compLoop (LC2 elt x px iter y py iter2 scope pos) 1 it acc env)) := by rfl

theorem turn_out (elt : Expr) (x : Str) (px : Pos) (iter : Expr) (y : Str) (py : Pos) (iter2 : Expr) (scope : Scope) (pos : Pos) (it acc : Value) (env : Env) :
    compTurn (LC2 elt x px iter y py iter2 scope pos) 0 it acc env = (standAt iter.pos >>= fun _ => pyNext it >>= fun r => match r with
      | none => pure (.done .next)
      | some v => letOwnedTupleGo (.Name x px) it v >>= fun _ => assign (.Name x px) env v >>= fun _ =>
        eval iter2 env >>= fun q => standAt iter2.pos >>= fun _ => foldedSetIterable iter2 env q >>= fun q => holding [q] (pyIter q) >>= fun i2 =>
          runOwn (.compStart (LC2 elt x px iter y py iter2 scope pos) 1 i2 acc env) env >>= fun _ =>
          again (.compLoop (LC2 elt x px iter y py iter2 scope pos) 0 it acc env)) := by rfl

theorem loop_in {elt : Expr} {x : Str} {px : Pos} {iter : Expr} {y : Str} {py : Pos} {iter2 : Expr} {scope : Scope} {pos : Pos} {it acc : Value} {env : Env} (I : Nat → Shared → Prop)
    (turn : ∀ n s, I n s → ∀ EE : Value → Shared → Prop, wpAny (model prog w) A (pyNext it) (fun r s₁ => match r with
      | none => R (.ok .next) s₁
      | some v => wpAny (model prog w) A (assign (.Name y py) env v) (fun _ s₂ => wpAny (model prog w) A (eval elt env) (fun z s₃ =>
          wpAny (model prog w) A (call (.builtin "list.append") [acc, z]) (fun _ s₄ => ∃ m, m < n ∧ I m s₄) EE s₃) EE s₂) EE s₁) EE s)
    (n : Nat) (h : I n s) : codeAny (model prog w) A (.compLoop (LC2 elt x px iter y py iter2 scope pos) 1 it acc env) R s := by
  refine codeAny_loop rfl I (fun n s hI => ?_) n h
  show wpAny _ _ ((compTurn (LC2 elt x px iter y py iter2 scope pos) 1 it acc env).onRaise (fun x => do noteFrame x env; theTreesLotGoes x)) _ _ s
  refine wpAny_noted ?_
  rw [turn_in]
  refine wpAny_bind (wpAny_standAt (wpAny_bind (wpAny_mono (turn n s hI _) (fun r s₁ h₁ => ?_) fun _ _ h' => h')))
  cases r with
  | none => exact wpAny_pure h₁
  | some v =>
    refine wpAny_bind (wpAny_of_eq (by rfl : letOwnedTupleGo (.Name y py) it v = pure ()) ?_)
    exact wpAny_bind (wpAny_mono h₁ (fun _ s₂ h₂ => wpAny_bind (wpAny_bind (wpAny_mono h₂ (fun x s₃ h₃ => wpAny_bind (wpAny_mono h₃
      (fun _ s₄ h₄ => wpAny_pure (wpAny_pure ⟨rfl, h₄⟩)) fun _ _ h' => h')) fun _ _ h' => h'))) fun _ _ h' => h')

theorem loop_out {elt : Expr} {x : Str} {px : Pos} {iter : Expr} {y : Str} {py : Pos} {iter2 : Expr} {scope : Scope} {pos : Pos} {it acc : Value} {env : Env} (I : Nat → Shared → Prop)
    (turn : ∀ n s, I n s → ∀ EE : Value → Shared → Prop, wpAny (model prog w) A (pyNext it) (fun r s₁ => match r with
      | none => R (.ok .next) s₁
      | some v => wpAny (model prog w) A (assign (.Name x px) env v) (fun _ s₂ => wpAny (model prog w) A (eval iter2 env) (fun q s₃ =>
          wpAny (model prog w) A (foldedSetIterable iter2 env q) (fun q s₄ => wpAny (model prog w) A (pyIter q) (fun i2 s₅ =>
            wpAny (model prog w) A (runOwn (.compStart (LC2 elt x px iter y py iter2 scope pos) 1 i2 acc env) env) (fun _ s₆ => ∃ m, m < n ∧ I m s₆) EE s₅) EE s₄) EE s₃) EE s₂) EE s₁) EE s)
    (n : Nat) (h : I n s) : codeAny (model prog w) A (.compLoop (LC2 elt x px iter y py iter2 scope pos) 0 it acc env) R s := by
  refine codeAny_loop rfl I (fun n s hI => ?_) n h
  show wpAny _ _ ((compTurn (LC2 elt x px iter y py iter2 scope pos) 0 it acc env).onRaise (fun x => do noteFrame x env; theTreesLotGoes x)) _ _ s
  refine wpAny_noted ?_
  rw [turn_out]
  refine wpAny_bind (wpAny_standAt (wpAny_bind (wpAny_mono (turn n s hI _) (fun r s₁ h₁ => ?_) fun _ _ h' => h')))
  cases r with
  | none => exact wpAny_pure h₁
  | some v =>
    refine wpAny_bind (wpAny_of_eq (by rfl : letOwnedTupleGo (.Name x px) it v = pure ()) ?_)
    refine wpAny_bind (wpAny_mono h₁ (fun _ s₂ h₂ => wpAny_bind (wpAny_mono h₂ (fun q s₃ h₃ => ?_) fun _ _ h' => h')) fun _ _ h' => h')
    refine wpAny_bind (wpAny_standAt (wpAny_bind (wpAny_mono h₃ (fun q s₄ h₄ => ?_) fun _ _ h' => h')))
    refine wpAny_bind (wpAny_holding (wpAny_mono h₄ (fun i2 s₅ h₅ => ?_) fun _ _ h' => h'))
    exact wpAny_bind (wpAny_mono h₅ (fun _ s₆ h₆ => wpAny_pure ⟨rfl, h₆⟩) fun _ _ h' => h')

theorem start_in {elt : Expr} {x : Str} {px : Pos} {iter : Expr} {y : Str} {py : Pos} {iter2 : Expr} {scope : Scope} {pos : Pos} {it acc : Value} {env : Env}
    (h0 : codeAny (model prog w) A (.compLoop (LC2 elt x px iter y py iter2 scope pos) 1 it acc env) R s)
    (h : ∀ EE : Value → Shared → Prop, wpAny (model prog w) A (pyIter it) (fun it' s' => codeAny (model prog w) A (.compLoop (LC2 elt x px iter y py iter2 scope pos) 1 it' acc env) R s') EE s) :
    codeAny (model prog w) A (.compStart (LC2 elt x px iter y py iter2 scope pos) 1 it acc env) R s := by
  refine codeAny_of_tree ?_
  show wpAny _ _ ((compStart (LC2 elt x px iter y py iter2 scope pos) 1 it acc env).onRaise (fun x => do noteFrame x env; standAt theWindowsPlace)) _ _ s
  refine wpAny_notedAt ?_
  unfold compStart
  show wpAny _ _ (ask >>= _) _ _ s
  refine wpAny_bind (wpAny_askSetting (wpAny_ite ?_))
  split
  · first
      | exact wpAny_bind (wpAny_pure (wpAny_pure (And.intro rfl h0)))
      | exact wpAny_pure (And.intro rfl h0)
  · first
      | exact wpAny_bind (wpAny_rule (wpAny_bind (wpAny_standAt (wpAny_bind (wpAny_mono (h _) (fun it' s' h' => wpAny_pure (And.intro rfl h')) fun _ _ x => x)))))
      | (refine wpAny_bind (wpAny_rule ?_); show wpAny _ _ (standAt iter2.pos >>= _) _ _ s; exact wpAny_bind (wpAny_standAt (wpAny_bind (wpAny_mono (h _) (fun it' s' h' => wpAny_pure (And.intro rfl h')) fun _ _ x => x))))
end Comp2
end
end Mine

-- part XC1
namespace Mine
section
open PySem PySem.W PyProof.Rows PySem.Calls PySem.Spec
theorem ints_snoc {ys : List Value} {rs : List Int} (h : IntsAre ys rs) (r : Int) (t : Tok) : IntsAre (ys ++ [.int r t]) (rs ++ [r]) := IntsAre.append h (.cons r t .nil)

theorem flat_len (f : Int → List Int) (n2 : Nat) (h : ∀ a, (f a).length = n2) (l : List Int) : (l.flatMap f).length = l.length * n2 := by
  induction l with
  | nil => simp
  | cons a l ih => rw [List.flatMap_cons, List.length_append, h, ih, List.length_cons, Nat.add_mul, Nat.one_mul, Nat.add_comm]

section Comp2
variable {prog : Program} {w : World} {A : Around} {E : Value → Shared → Prop} {R : Result → Shared → Prop} {s : Shared}

theorem block_in {elt : Expr} {x : Str} {px : Pos} {iter : Expr} {y : Str} {py : Pos} {iter2 : Expr} {scope : Scope} {pos : Pos} {env : Env} {D I2 : Addr} {n2 : Nat} {m₀ : Str → Option Value} {vx : Value} {ys : List Value} {rs : List Int} (g : Int → Int)
    (hh : A.handled = none) (hy : env.kindOf y = some .local) (hp : (env.scope.kind == .class || (env.scope.kind == .module && env.locals != env.globals)) = false) (hxy : x ≠ y)
    (hDC : D ≠ env.locals) (hIC : I2 ≠ env.locals) (hID : I2 ≠ D)
    (hst : IsRangeIter s.heap I2 0 n2 1) (hacc : s.heap.get? D = some (LCg.lst ys)) (hys : IntsAre ys rs) (hsz : rs.length + n2 ≤ sizeLine) (hn : s.heap.Ns env.locals m₀) (hx : m₀ x = some vx)
    (helt : ∀ (s₃ : Shared) (m₃ : Str → Option Value) (k : Int) (tk : Tok) (E' : Value → Shared → Prop), 0 ≤ k → k < n2 → s₃.heap.Ns env.locals m₃ → m₃ x = some vx → m₃ y = some (.int k tk) →
      (∀ b o, b ≠ env.locals → b ≠ D → b ≠ I2 → s.heap.get? b = some o → s₃.heap.get? b = some o) →
      wpAny (model prog w) A (eval elt env) (fun r s₄ => (∃ t, r = .int (g k) t) ∧ ∃ tk', s₄ = { s₃ with toks := tk' }) E' s₃)
    (hR : ∀ h' tk m' ys', h'.Ns env.locals m' → h'.get? D = some (LCg.lst ys') → IntsAre ys' (rs ++ (List.range n2).map fun (j : Nat) => g (j : Int)) →
      (∀ b o, b ≠ env.locals → b ≠ D → b ≠ I2 → s.heap.get? b = some o → h'.get? b = some o) → R (.ok .next) { s with heap := h', toks := tk }) :
    codeAny (model prog w) A (.compStart (LC2 elt x px iter y py iter2 scope pos) 1 (.ref I2) (.ref D) env) R s := by
  have W := LCg.range_walks (prog := prog) (w := w) (A := A) (I := I2) hh 0 n2
  have hst0 : IsRangeIter s.heap I2 (0 + ((0 : Nat) : Int) * 1) ((n2 : Int) - ((0 : Nat) : Int)) 1 := by simpa using hst
  have loop : codeAny (model prog w) A (.compLoop (LC2 elt x px iter y py iter2 scope pos) 1 (.ref I2) (.ref D) env) R s := by
    refine loop_in (fun k s' => ∃ h' tk i ys' m', s' = { s with heap := h', toks := tk } ∧ i ≤ n2 ∧ k = n2 + 1 - i ∧ IsRangeIter h' I2 (0 + (i : Nat) * 1) ((n2 : Int) - (i : Nat)) 1 ∧ h'.Ns env.locals m' ∧ m' x = some vx ∧
      h'.get? D = some (LCg.lst ys') ∧ IntsAre ys' (rs ++ (List.range i).map fun (j : Nat) => g (j : Int)) ∧ (∀ b o, b ≠ env.locals → b ≠ D → b ≠ I2 → s.heap.get? b = some o → h'.get? b = some o)) ?_ (n2 + 1)
      ⟨s.heap, s.toks, 0, ys, m₀, rfl, Nat.zero_le _, rfl, hst0, hn, hx, hacc, by simpa using hys, fun _ _ _ _ _ e => e⟩
    rintro k s' ⟨h', tk, i, ys', m', rfl, hi, rfl, hst', hn', hx', hacc', hys', hk'⟩ EE
    by_cases hlt : i < n2
    · refine W.item i _ _ _ hlt hst' fun v h₁ tk₁ hP hst₁ hk₁ => ?_
      obtain ⟨t, rfl⟩ := hP
      have hn₁ : h₁.Ns env.locals m' := hn'.at' fun o e => hk₁ _ o (by simpa using Ne.symm hIC) e
      refine wpAny_assign_Name (wpAny_storeName_local hy hn₁ (fun h₂ hn₂ hs₂ => ?_) hp)
      have hD₂ : h₂.get? D = some (LCg.lst ys') := hs₂.extBut _ _ hDC (hk₁ _ _ (by simpa using Ne.symm hID) hacc')
      have hk₂ : ∀ b o, b ≠ env.locals → b ≠ D → b ≠ I2 → s.heap.get? b = some o → h₂.get? b = some o := fun b o b1 b2 b3 e =>
        hs₂.extBut _ _ b1 (hk₁ _ _ (by simpa using b3) (hk' b o b1 b2 b3 e))
      have e0 : (0 : Int) + (i : Int) = (i : Int) := by omega
      refine wpAny_mono (helt _ _ (i : Int) t EE (by omega) (by omega) hn₂ (by simp [hxy, hx']) (by simp) hk₂) (fun r s₃ q => ?_) fun _ _ e => e
      obtain ⟨⟨t', rfl⟩, tk', rfl⟩ := q
      have hlen := hys'.length
      refine append_at hD₂ (fun h₃ hs₃ hD₃ => ?_) (by rw [List.size_toArray, hlen, List.length_append, List.length_map, List.length_range]; omega)
      refine ⟨n2 + 1 - (i + 1), by omega, h₃, tk', i + 1, ys' ++ [.int (g i) t'], _, rfl, hlt, rfl, ?_, hn₂.sameBut hs₃ (Ne.symm hDC), by simp [hxy, hx'], hD₃.trans (congrArg some (LCg.lst_snoc ys' _)), ?_, fun b o b1 b2 b3 e => hs₃.extBut _ _ b2 (hk₂ b o b1 b2 b3 e)⟩
      · exact W.frame _ _ _ hst₁ fun b hb o e => by
          rw [List.mem_singleton.mp hb] at e ⊢
          exact hs₃.extBut _ _ hID (hs₂.extBut _ _ hIC e)
      · rw [List.range_succ, List.map_append, ← List.append_assoc]
        exact ints_snoc hys' _ _
    · obtain rfl : i = n2 := Nat.le_antisymm hi (Nat.not_lt.mp hlt)
      refine W.done _ _ _ hst' fun h₁ tk₁ hk₁ => ?_
      exact hR h₁ tk₁ m' ys' (hn'.at' fun o e => hk₁ _ o (by simpa using Ne.symm hIC) e) (hk₁ _ _ (by simpa using Ne.symm hID) hacc') hys' fun b o b1 b2 b3 e => hk₁ _ _ (by simpa using b3) (hk' b o b1 b2 b3 e)
  exact start_in loop fun EE => W.self 0 _ _ _ hst0 loop


theorem block_out {elt : Expr} {x : Str} {px : Pos} {iter : Expr} {y : Str} {py : Pos} {iter2 : Expr} {scope : Scope} {pos : Pos} {cl : List (Str × Addr)} {env : Env} {ax : Addr} {n2 : Nat} {vs : List Value} {ns : List Int} (g : Int → Int → Int) {RR : Value → Addr → Result → Shared → Prop}
    (hh : A.handled = none) (hl : s.heap.IsList ax vs.toArray) (hi : IntsAre vs ns) (hcell : ∀ q ∈ scope.names, q.2 ≠ .cell) (hkind : scope.kind = .function) (hx : scope.names.lookup x = some .local) (hy : scope.names.lookup y = some .local) (hxy : x ≠ y)
    (hsz : ns.length * n2 ≤ sizeLine) (hsm : Builtin.Range.small 0 n2 1 = true) (hrs : Builtin.Range.rangeSize 0 n2 1 = (n2 : Int)) (hs2 : ∀ (e : Env) q, foldedSetIterable iter2 e q = pure q)
    (hit : ∀ C (s₃ : Shared) m₃ (E' : Value → Shared → Prop), s.heap.get? C = none → s₃.heap.Ns C m₃ → (∀ b o, s.heap.get? b = some o → s₃.heap.get? b = some o) →
      wpAny (model prog w) A (eval iter2 (compEnvC scope cl C env)) (fun xv s₄ => ∃ r t u v h' tk', xv = .ref r ∧ s₄ = { s₃ with heap := h', toks := tk' } ∧ IsRange h' r 0 n2 1 t u v ∧ ∀ b o, s₃.heap.get? b = some o → h'.get? b = some o) E' s₃)
    (helt : ∀ C (s₃ : Shared) m₃ (a : Int) (ta : Tok) (k : Int) (tk : Tok) (E' : Value → Shared → Prop), s.heap.get? C = none → a ∈ ns → 0 ≤ k → k < n2 → s₃.heap.Ns C m₃ → m₃ x = some (.int a ta) → m₃ y = some (.int k tk) → (∀ b o, s.heap.get? b = some o → s₃.heap.get? b = some o) →
      wpAny (model prog w) A (eval elt (compEnvC scope cl C env)) (fun r s₄ => (∃ t, r = .int (g a k) t) ∧ ∃ tk', s₄ = { s₃ with toks := tk' }) E' s₃)
    (hRR : ∀ D C h tk m' ys, h.Ns C m' → h.get? D = some (LCg.lst ys) → s.heap.get? D = none → s.heap.get? C = none → C ≠ D → IntsAre ys (ns.flatMap fun a => (List.range n2).map fun (j : Nat) => g a (j : Int)) →
      (∀ b o, s.heap.get? b = some o → h.get? b = some o) → RR (.ref D) C (.ok .next) { s with heap := h, toks := tk }) :
    wpAny (model prog w) A (pyIter (.ref ax)) (fun it s₂ => wpAny (model prog w) A (newList []) (fun acc s₃ => wpAny (model prog w) A (newFunctionEnv scope env.globals cl [] env.qual none .none (some env)) (fun cenv s₄ =>
      codeAny (model prog w) A (.compStart (LC2 elt x px iter y py iter2 scope pos) 0 it acc { cenv with scope := relabel scope env }) (RR acc cenv.locals) s₄) E s₃) E s₂) E s := by
  have hax : ax < s.heap.objs.size := by obtain ⟨_, e, _⟩ := hl; exact Heap.lt_size e
  refine wpAny_pyIter_list hl ?_
  generalize hH1 : s.heap.push { cls := .type "list_iterator", data := .fields #[.ref ax, .int 0 0] } = H1
  have sz1 : H1.objs.size = s.heap.objs.size + 1 := by rw [← hH1, Heap.size_push]
  refine wpAny_newObj_type (wpAny_newFunctionEnv hcell (by intro q hq; simp at hq) (fun h₁ hns₁ hsb₁ => ?_) hkind)
  dsimp only at hns₁ hsb₁ ⊢
  generalize hH2 : H1.push { cls := .type "list", dict := none, data := .seq ([] : List Value).toArray } = H2 at hns₁ hsb₁ ⊢
  have sz2 : H2.objs.size = s.heap.objs.size + 2 := by rw [← hH2, Heap.size_push, sz1]
  generalize hI : s.heap.objs.size = I at *
  generalize hD : H1.objs.size = D at *
  generalize hC : H2.objs.size = C at *
  have hIC : I ≠ C := by rw [sz2]; exact Nat.ne_of_lt (Nat.lt_add_of_pos_right (by decide))
  have hID : I ≠ D := by rw [sz1]; exact Nat.ne_of_lt (Nat.lt_succ_self _)
  have hDC : D ≠ C := by rw [sz1, sz2]; exact Nat.ne_of_lt (Nat.lt_succ_self _)
  have hlt : ∀ b o, s.heap.get? b = some o → b ≠ I ∧ b ≠ D ∧ b ≠ C := fun b o e => by
    have h1 : b < I := hI ▸ Heap.lt_size e
    exact ⟨Nat.ne_of_lt h1, by rw [sz1]; exact Nat.ne_of_lt (Nat.lt_succ_of_lt h1), by rw [sz2]; exact Nat.ne_of_lt (Nat.lt_of_lt_of_le h1 (Nat.le_add_right _ _))⟩
  have old : ∀ b o, s.heap.get? b = some o → h₁.get? b = some o := fun b o e => hsb₁.extBut b o (hlt b o e).2.2 (Heap.get?_push_of_some _ (hH2 ▸ Heap.get?_push_of_some _ (hH1 ▸ Heap.get?_push_of_some _ e)))
  have hacc : h₁.get? D = some (LCg.lst []) := hsb₁.extBut _ _ hDC (Heap.get?_push_of_some _ (hH2 ▸ hD ▸ Heap.get?_push_size _ rfl))
  have hIt : h₁.get? I = some { cls := .type "list_iterator", data := .fields #[.ref ax, .int 0 0] } := hsb₁.extBut _ _ hIC (Heap.get?_push_of_some _ (hH2 ▸ Heap.get?_push_of_some _ (hH1 ▸ hI ▸ Heap.get?_push_size _ rfl)))
  have fresh : ∀ a, I ≤ a → s.heap.get? a = none := fun a ha => by
    cases e : s.heap.get? a with
    | none => rfl
    | some o' => exact absurd (Heap.lt_size e) (Nat.not_lt.mpr (hI ▸ ha))
  have hD₀ := fresh D (by rw [sz1]; exact Nat.le_succ _)
  have hC₀ := fresh C (by rw [sz2]; exact Nat.le_add_right _ _)
  have haI : ax ≠ I := Nat.ne_of_lt hax
  have haD : ax ≠ D := by rw [sz1]; exact Nat.ne_of_lt (Nat.lt_succ_of_lt hax)
  have haC : ax ≠ C := by rw [sz2]; exact Nat.ne_of_lt (Nat.lt_of_lt_of_le hax (Nat.le_add_right _ _))
  have W := Walks.list (prog := prog) (w := w) (A := A) hh I ax haI vs.toArray
  have hst₁ : h₁.IsListIter I ax 0 ∧ h₁.IsList ax vs.toArray := ⟨⟨_, hIt, rfl, rfl⟩, hl.at fun o e => old _ o e⟩
  have hvn : vs.length = ns.length := hi.length
  have loop : ∀ s₃ : Shared, s₃ = { s with heap := h₁, toks := s.toks + ([] : List (Str × Value)).length } →
      codeAny (model prog w) A (.compLoop (LC2 elt x px iter y py iter2 scope pos) 0 (.ref I) (.ref D) (compEnvC scope cl C env)) (RR (.ref D) C) s₃ := by
    rintro s₃ rfl
    have hp : ((compEnvC scope cl C env).scope.kind == .class || ((compEnvC scope cl C env).scope.kind == .module && (compEnvC scope cl C env).locals != (compEnvC scope cl C env).globals)) = false := by simp [compEnvC, relabel, hkind]
    refine loop_out (fun k s' => ∃ h' tk i ys m', s' = { s with heap := h', toks := tk } ∧ i ≤ vs.length ∧ k = vs.length + 1 - i ∧ (h'.IsListIter I ax i ∧ h'.IsList ax vs.toArray) ∧ h'.Ns C m' ∧ h'.get? D = some (LCg.lst ys) ∧
      IntsAre ys ((ns.take i).flatMap fun a => (List.range n2).map fun (j : Nat) => g a (j : Int)) ∧ ∀ b o, s.heap.get? b = some o → h'.get? b = some o) ?_ (vs.length + 1)
      ⟨h₁, _, 0, [], _, rfl, Nat.zero_le _, rfl, hst₁, hns₁, hacc, .nil, old⟩
    rintro k s' ⟨h', tk, i, ys, m', rfl, hi', rfl, hst', hn', hacc', hys', hk'⟩ EE
    by_cases hlt' : i < vs.length
    · refine W.item i _ _ _ (by simpa using hlt') hst' fun v h₂ tk₂ hP hst₂ hk₂ => ?_
      obtain ⟨a, ta, rfl, ha⟩ := IntsAre.at hi i v (by simpa using hP)
      have hn₂ : h₂.Ns C m' := hn'.at' fun o e => hk₂ _ o (by simpa using Ne.symm hIC) e
      refine wpAny_assign_Name (wpAny_storeName_local (lookup_relabel_local hx) hn₂ (fun h₃ hn₃ hs₃ => ?_) hp)
      replace hs₃ : Heap.SameBut C h₂ h₃ := hs₃
      replace hn₃ : h₃.Ns C (fun z => if z = x then some (.int a ta) else m' z) := hn₃
      have hk₃ : ∀ b o, s.heap.get? b = some o → h₃.get? b = some o := fun b o e => hs₃.extBut _ _ (hlt b o e).2.2 (hk₂ _ _ (by simpa using (hlt b o e).1) (hk' b o e))
      have hst₃ : h₃.IsListIter I ax (i + 1) ∧ h₃.IsList ax vs.toArray := ⟨hst₂.1.at fun o e => hs₃.extBut _ _ hIC e, hst₂.2.at fun o e => hs₃.extBut _ _ haC e⟩
      have hD₃ : h₃.get? D = some (LCg.lst ys) := hs₃.extBut _ _ hDC (hk₂ _ _ (by simpa using Ne.symm hID) hacc')
      refine wpAny_mono (hit C _ _ EE hC₀ hn₃ hk₃) (fun xv s₄ q => ?_) fun _ _ e => e
      obtain ⟨r, t, u, v, h₄, tk₄, rfl, rfl, hr, hk₄⟩ := q
      rw [hs2]
      refine wpAny_pure (wpAny_pyIter_range hr hsm ?_)
      dsimp only
      rw [hrs]
      have up : ∀ b o, h₃.get? b = some o → (h₄.push { cls := .type "range_iterator", data := .fields #[rawInt 0, rawInt (n2 : Int), rawInt 1] }).get? b = some o := fun b o e => Heap.get?_push_of_some _ (hk₄ b o e)
      have ne2 : ∀ b o, h₃.get? b = some o → b ≠ h₄.objs.size := fun b o e => Nat.ne_of_lt (Heap.lt_size (hk₄ b o e))
      obtain ⟨oC, heC⟩ : ∃ o, h₃.get? C = some o := by obtain ⟨o, _, _, e, _⟩ := hn₃; exact ⟨o, e⟩
      obtain ⟨oI, heI⟩ : ∃ o, h₃.get? I = some o := by obtain ⟨o, e, _⟩ := hst₃.1; exact ⟨o, e⟩
      obtain ⟨oA, heA⟩ : ∃ o, h₃.get? ax = some o := by obtain ⟨o, e, _⟩ := hst₃.2; exact ⟨o, e⟩
      have hlen := hys'.length
      have hb : (ns.take i).length * n2 + n2 ≤ sizeLine := by
        have h1 : ((ns.take i).length + 1) * n2 ≤ ns.length * n2 := Nat.mul_le_mul_right _ (by rw [List.length_take]; omega)
        rw [Nat.add_mul, Nat.one_mul] at h1
        exact Nat.le_trans h1 hsz
      have hfl : ((ns.take i).flatMap fun a => (List.range n2).map fun (j : Nat) => g a (j : Int)).length = (ns.take i).length * n2 := by
        exact flat_len _ n2 (fun a => by simp) _
      refine wpAny_runOwn (block_in (g a) (iter := iter) (vx := .int a ta) (ys := ys) (rs := (ns.take i).flatMap fun a => (List.range n2).map fun (j : Nat) => g a (j : Int)) hh (lookup_relabel_local hy) hp hxy hDC (Ne.symm (ne2 _ _ heC)) (Ne.symm (ne2 _ _ hD₃)) (Heap.get?_push_size _ rfl) (up _ _ hD₃) hys' (by rw [hfl]; exact hb) (hn₃.at' fun o e => up _ o e) (by simp) ?_ ?_)
      · intro s₅ m₅ k tk5 E' h0 h1 hn₅ hx₅ hy₅ hk₅
        refine helt C s₅ m₅ a ta k tk5 E' hC₀ (List.mem_of_getElem? ha) h0 h1 hn₅ hx₅ hy₅ fun b o e => ?_
        exact hk₅ b o (hlt b o e).2.2 (hlt b o e).2.1 (ne2 _ _ (hk₃ b o e)) (up _ _ (hk₃ b o e))
      · intro h₅ tk₅ m₅ ys₅ hn₅ hD₅ hys₅ hk₅
        have k5 : ∀ b o, b ≠ C → b ≠ D → h₃.get? b = some o → h₅.get? b = some o := fun b o b1 b2 e => hk₅ b o b1 b2 (ne2 _ _ e) (up _ _ e)
        refine ⟨vs.length + 1 - (i + 1), by omega, h₅, tk₅, i + 1, ys₅, m₅, rfl, hlt', rfl, ⟨hst₃.1.at fun o e => k5 _ o hIC hID e, hst₃.2.at fun o e => k5 _ o haC haD e⟩, hn₅, hD₅, ?_, fun b o e => k5 b o (hlt b o e).2.2 (hlt b o e).2.1 (hk₃ b o e)⟩
        rw [List.take_add_one, ha, List.flatMap_append]
        simpa using hys₅
    · obtain rfl : i = vs.length := Nat.le_antisymm hi' (Nat.not_lt.mp hlt')
      refine W.done _ _ _ (by simpa using hst') fun h₂ tk₂ hk₂ => ?_
      rw [hvn, List.take_length] at hys'
      exact hRR D C h₂ tk₂ m' ys (hn'.at' fun o e => hk₂ _ o (by simpa using Ne.symm hIC) e) (hk₂ _ _ (by simpa using Ne.symm hID) hacc') hD₀ hC₀ (Ne.symm hDC) hys' fun b o e => hk₂ _ _ (by simpa using (hlt b o e).1) (hk' b o e)
  exact codeAny_compStart_list (loop _ rfl) (W.self 0 _ _ _ hst₁ (loop _ rfl))

end Comp2
end
end Mine

-- part XC2
namespace Mine
section
open PySem PySem.W PyProof.Rows PySem.Calls PySem.Spec
section Comp2
variable {prog : Program} {w : World} {A : Around} {E : Value → Shared → Prop} {s : Shared} {h₀ : Heap} {L : Addr} {m : Str → Option Value} {news : List (Addr × Obj)}

theorem assign_comp2 {elt : Expr} {x : Str} {px : Pos} {iter : Expr} {y : Str} {py : Pos} {iter2 : Expr} {scope : Scope} {pos spos pz : Pos} {z : Str} {cl : List (Str × Addr)} {env : Env} {ax : Addr} {n2 : Nat} {vs : List Value} {ns : List Int} {Q : Flow → Shared → Prop} (g : Int → Int → Int)
    (F : Fr h₀ env.locals s.heap m) (N : News h₀ env.locals s.heap news)
    (hsw : swapsWith (LC2 elt x px iter y py iter2 scope pos) (some (.Name z pz)) spos.line env = pure true) (hclos : closureFor scope env = pure cl)
    (hcell : ∀ q ∈ scope.names, q.2 ≠ .cell) (hkind : scope.kind = .function) (hnames : ∀ q ∈ scope.names, q.2 = .local → scope.names.lookup q.1 = some .local)
    (hx : scope.names.lookup x = some .local) (hy : scope.names.lookup y = some .local) (hxy : x ≠ y)
    (hz : env.kindOf z = some .local) (hp : (env.scope.kind == .class || (env.scope.kind == .module && env.locals != env.globals)) = false)
    (hs1 : ∀ q, foldedSetIterable iter env q = pure q) (hs2 : ∀ (e : Env) q, foldedSetIterable iter2 e q = pure q)
    (hh : A.handled = none) (hiter : ∀ (Q' : Value → Shared → Prop) (E' : Value → Shared → Prop), Q' (.ref ax) s → wpAny (model prog w) A (eval iter env) Q' E' s)
    (hl : s.heap.IsList ax vs.toArray) (hi : IntsAre vs ns)
    (hsz : ns.length * n2 ≤ sizeLine) (hsm : Builtin.Range.small 0 n2 1 = true) (hrs : Builtin.Range.rangeSize 0 n2 1 = (n2 : Int))
    (hit : ∀ C (s₃ : Shared) m₃ (E' : Value → Shared → Prop), s.heap.get? C = none → s₃.heap.Ns C m₃ → (∀ b o, s.heap.get? b = some o → s₃.heap.get? b = some o) →
      wpAny (model prog w) A (eval iter2 (compEnvC scope cl C env)) (fun xv s₄ => ∃ r t u v h' tk', xv = .ref r ∧ s₄ = { s₃ with heap := h', toks := tk' } ∧ IsRange h' r 0 n2 1 t u v ∧ ∀ b o, s₃.heap.get? b = some o → h'.get? b = some o) E' s₃)
    (helt : ∀ C (s₃ : Shared) m₃ (a : Int) (ta : Tok) (k : Int) (tk : Tok) (E' : Value → Shared → Prop), s.heap.get? C = none → a ∈ ns → 0 ≤ k → k < n2 → s₃.heap.Ns C m₃ → m₃ x = some (.int a ta) → m₃ y = some (.int k tk) → (∀ b o, s.heap.get? b = some o → s₃.heap.get? b = some o) →
      wpAny (model prog w) A (eval elt (compEnvC scope cl C env)) (fun r s₄ => (∃ t, r = .int (g a k) t) ∧ ∃ tk', s₄ = { s₃ with toks := tk' }) E' s₃)
    (fin : ∀ D h tk ys, Fr h₀ env.locals h (fun q => if q = z then some (.ref D) else m q) → News h₀ env.locals h ((D, LCg.lst ys) :: news) → (∀ p ∈ news, p.1 ≠ D) →
      IntsAre ys (ns.flatMap fun a => (List.range n2).map fun (j : Nat) => g a (j : Int)) → Q .next { s with heap := h, toks := tk }) :
    wpAny (model prog w) A (exec (.Assign [.Name z pz] (LC2 elt x px iter y py iter2 scope pos) spos) env) Q E s := by
  rw [exec_Assign_Name_used _ _ _ _ hsw]
  refine wpAny_bind (wpAny_standAt (wpAny_bind ?_))
  show wpAny _ A (do let _ ← comprehension (LC2 elt x px iter y py iter2 scope pos) scope env _ (newList []) false (eval iter env) (some (assign (.Name z pz) env))) _ _ s
  refine wpAny_bind (wpAny_mono (wpAny_comprehension_free (use := some (assign (.Name z pz) env)) (Q := fun _ s' => Q .next s') rfl hs1 hclos hkind hnames
    (hiter _ _ ?_)) (fun _ s' hq => wpAny_pure (wpAny_pure hq)) fun _ _ e => e)
  refine block_out (RR := fun acc C => compPost (model prog w) A E (some (assign (.Name z pz) env)) (fun _ s' => Q .next s') acc C) g hh hl hi hcell hkind hx hy hxy hsz hsm hrs hs2 hit helt ?_
  intro D C h tk m' ys hnC hD hD₀ hC₀ hCD hys hk
  have hL : s.heap.get? env.locals ≠ none := by obtain ⟨o, _, _, e, _⟩ := F.ns; rw [e]; simp
  have hLC : env.locals ≠ C := fun e => hL (e ▸ hC₀)
  have hLD : env.locals ≠ D := fun e => hL (e ▸ hD₀)
  have hL₀ : h₀.get? env.locals = none := Heap.get?_none_of_le F.above
  have F₁ := F.keeps hk
  show wpAny _ A (assign (.Name z pz) env (.ref D)) _ _ _
  refine wpAny_assign_Name (wpAny_storeName_local hz F₁.ns (fun h₂ hn₂ hs₂ => ?_) hp)
  replace hs₂ : Heap.SameBut env.locals h h₂ := hs₂
  refine ⟨m', hnC.sameBut hs₂ (Ne.symm hLC), fun h₃ hs₃ => ?_⟩
  have F₂ : Fr h₀ env.locals h₂ (fun q => if q = z then some (.ref D) else m q) := ⟨hn₂, fun b o e => hs₂.extBut b o (fun q => by rw [q, hL₀] at e; cases e) (F₁.keep b o e), F₁.above⟩
  have hD₀' : h₀.get? D = none := by
    cases e : h₀.get? D with
    | none => rfl
    | some o => have := F.keep D o e; rw [hD₀] at this; cases this
  have hC₀' : h₀.get? C = none := by
    cases e : h₀.get? C with
    | none => rfl
    | some o => have := F.keep C o e; rw [hC₀] at this; cases this
  refine fin D h₃ _ ys (F₂.change hs₃ (Ne.symm hLC) hC₀') (fun p hp => ?_) (fun p hp e => ?_) hys
  · rcases List.mem_cons.mp hp with rfl | hp
    · exact ⟨hs₃.extBut _ _ (Ne.symm hCD) (hs₂.extBut _ _ (Ne.symm hLD) hD), Ne.symm hLD, hD₀'⟩
    · have z := N p hp
      refine ⟨hs₃.extBut _ _ (fun e => ?_) (hs₂.extBut _ _ z.2.1 (hk _ _ z.1)), z.2⟩
      have := z.1; rw [e, hC₀] at this; cases this
  · have := (N p hp).1; rw [e, hD₀] at this; cases this

end Comp2

section Loop
variable {prog : Program} {w : World} {A : Around} {E : Value → Shared → Prop} {s : Shared} {env : Env} {h₀ : Heap} {target : Expr} {body : List Stmt} {Q : Flow → Shared → Prop}

theorem items_inv {ax : Addr} {lo : Obj} {I : Addr} {vs : List Value} (J : Nat → (Str → Option Value) → List (Addr × Obj) → Prop)
    (turn : ∀ i v m news h tk oI, vs[i]? = some v → oI.cls = .type "list_iterator" → J i m news → Fr h₀ env.locals h m → News h₀ env.locals h ((I, oI) :: news) →
      wpAny (model prog w) A (assign target env v) (fun _ s₂ => wpAny (model prog w) A (execs body env) (UnrPostW h₀ env.locals { s with heap := h, toks := tk } [(I, oI)] (fun m' n' => (ax, lo) ∈ n' ∧ J (i + 1) m' n') Q) E s₂) E { s with heap := h, toks := tk })
    (done : ∀ m news h tk, J vs.length m news → Fr h₀ env.locals h m → News h₀ env.locals h news → Q .next { s with heap := h, toks := tk }) :
    ∀ (k i : Nat) m news, i + k = vs.length → J i m news → ItemsRest prog w A E h₀ env target body Q s [(I, "list_iterator")] [(ax, lo)] ((vs.drop i).map .val) m news := by
  intro k
  induction k with
  | zero =>
    intro i m news hk hJ
    have e : i = vs.length := by omega
    subst e
    rw [List.drop_length]
    exact ItemsRest.zero fun h tk F N => done m news h tk hJ F N
  | succ k ih =>
    intro i m news hk hJ
    have hlt : i < vs.length := by omega
    rw [List.drop_eq_getElem_cons hlt, List.map_cons]
    refine ItemsRest.val fun h tk F => ?_
    intro oI hc N
    refine wpAny_mono (turn i _ m news h tk oI (List.getElem?_eq_getElem hlt) hc hJ F N) (fun _ s₂ h₂ => wpAny_mono h₂ (fun f s₃ h₃ => ?_) fun _ _ e => e) fun _ _ e => e
    have up : UnrEndW h₀ env.locals { s with heap := h, toks := tk } [(I, oI)] (fun m' n' => (ax, lo) ∈ n' ∧ J (i + 1) m' n') s₃ →
        UnrEndW h₀ env.locals { s with heap := h, toks := tk } [(I, oI)] (fun m' n' => SubL [(ax, lo)] n' ∧ ItemsRest prog w A E h₀ env target body Q s [(I, "list_iterator")] [(ax, lo)] ((vs.drop (i + 1)).map .val) m' n') s₃ := by
      rintro ⟨h', tk', m', n', e, F', N', off, hm, hj⟩
      exact ⟨h', tk', m', n', e, F', N', off, ⟨hm, trivial⟩, ih (i + 1) m' n' (by omega) hj⟩
    cases f with
    | ret v => exact h₃
    | brk => exact h₃
    | next => exact up h₃
    | cont => exact up h₃

/-- a for over a list of the call's own, whatever its items and its target -/
theorem for_inv {ax : Addr} {lo : Obj} {vs : List Value} {n : Nat} {m₀ : Str → Option Value} {news : List (Addr × Obj)} (J : Addr → Nat → (Str → Option Value) → List (Addr × Obj) → Prop)
    (hh : A.handled = none) (F : Fr h₀ env.locals s.heap m₀) (N : News h₀ env.locals s.heap news) (hm : (ax, lo) ∈ news) (hc : lo.cls = .type "list") (hd : lo.data = .seq vs.toArray n) (hJ : ∀ I : Addr, (∀ p ∈ news, p.1 < I) → J I 0 m₀ news)
    (turn : ∀ I i v m news h tk oI, vs[i]? = some v → oI.cls = .type "list_iterator" → J I i m news → Fr h₀ env.locals h m → News h₀ env.locals h ((I, oI) :: news) →
      wpAny (model prog w) A (assign target env v) (fun _ s₂ => wpAny (model prog w) A (execs body env) (UnrPostW h₀ env.locals { s with heap := h, toks := tk } [(I, oI)] (fun m' n' => (ax, lo) ∈ n' ∧ J I (i + 1) m' n') Q) E s₂) E { s with heap := h, toks := tk })
    (done : ∀ I m news h tk, J I vs.length m news → Fr h₀ env.locals h m → News h₀ env.locals h news → Q .next { s with heap := h, toks := tk }) :
    wpAny (model prog w) A (pyIter (.ref ax)) (fun it s₂ => TurnsAt prog w A h₀ env target body Q E it s₂) E s :=
  iter_listTurns hh F N hm hc hd fun I hI => by
    have h := items_inv (prog := prog) (w := w) (A := A) (E := E) (s := s) (h₀ := h₀) (env := env) (target := target) (body := body) (Q := Q) (ax := ax) (lo := lo) (I := I) (J I) (fun i v m news h tk oI => turn I i v m news h tk oI) (done I) vs.length 0 m₀ news (by omega) (hJ I hI)
    simpa using h
end Loop
end
end Mine

-- part XD
namespace Mine
section
open PySem PySem.W PyProof.Rows PySem.Calls PySem.Spec
theorem fresh_XD : True := by w_top off; k_with_none; trivial
def stepD (fs : List Int) (pm : Int × Int) : List Int := fs.flatMap fun a => (List.range (pm.2 + 1).toNat).map fun (j : Nat) => a * pm.1 ^ j
def okF : List (Int × Int) → List Int → Bool
  | [], fs => decide (fs.length < 64)
  | pm :: r, fs => (fs.all fun a => decide (0 ≤ a) && decide (a < 2 ^ 63)) && decide (0 ≤ pm.1) && decide (pm.1 < 2 ^ 63) && decide (0 ≤ pm.2) && decide (pm.2 < 1000) && decide (fs.length * (pm.2 + 1).toNat ≤ 1000) && okF r (stepD fs pm)
def rawD (n : Int) : List Int := (pfI n).foldl stepD [1]
def okD (n : Int) : Bool := okF (pfI n) [1]

theorem tellR_use {w : World} {mean : ExcName → Option Value} {mg mb : Str → Option Value} {f : Addr} {vs : List Value} {need : Nat} {R : List (Addr × Obj) → Value → Prop}
    {dp un : Nat} {gd : Option (List Code)} {cn : Str} {cs : Scope} {a : Addr} {ccd : Value} {cl : List (Str × Addr)} {outer : List Env} {A₀ : Around} {base h₀ : Heap} {L : Addr} {m : Str → Option Value} {news : List (Addr × Obj)} {s : Shared} {Q E : Value → Shared → Prop}
    (C : TellR w mean mg mb f vs need R) (B : Below A₀ base outer h₀) (F : Fr h₀ L s.heap m) (X : (hd.heap_39 w.params).In h₀) (N : News h₀ L s.heap news) (T : Top hd.view_39 (looseW hd.view_39 []) mean mg mb h₀) (hk : cs.kind = .function)
    (hd : dp + need < recursionLimit) (hu : un + 8 * need < cLine)
    (ret : ∀ (r : Value) (tl : List (Addr × Obj)) (h' : Heap) (tk' : Nat), Fr h₀ L h' m → News h₀ L h' (tl ++ news) → (∀ q ∈ news, ∀ p ∈ tl, q.1 < p.1) → R tl r → Q r { s with heap := h', toks := tk' }) :
    wpAny (model PySem.Challenge.rw_xm0112_01.row.prog w) (ktrTop dp un gd cn cs L a ccd cl outer) (call (.ref f) vs) Q E s := C _ _ _ _ _ _ _ _ _ _ _ _ _ _ _ _ _ _ B F X N T hk hd hu ret

local macro_rules | `(tactic| walk_at "t_go") => `(tactic| ((case k1 => k_asm); (case k2 => k_asm); (case k3 => k_asm); (case k4 => k_asm); (case k5 => k_asm); (case kK => first | exact rfl | assumption); (case kd => ktr_room); (case ku => ktr_units)))
local macro_rules | `(tactic| walk_at "call ref") => `(tactic| (k_here; (with_reducible show wpAny _ _ (call (Value.ref 35) [Value.int _ _]) _ _ _); k_dflt (refine' tellR_use (pf_tell _ _ _ _ _ _ ?p1 ?p2) ?k1 ?k2 ?k3 ?k4 ?k5 ?kK ?kd ?ku ?_; (case p1 => omega); (case p2 => omega); walk_at "t_go"; intro r9 tl9 h9 tk9 F9 N9 lo9 hR9; obtain ⟨a9, vs9, c9, e9, hm9, hD9⟩ := hR9; subst e9; (try dsimp only); (try k_fold))))

local macro_rules | `(tactic| walk_at "t_cells") => `(tactic| (refine' code_defC ?k1 ?k2 ?k3 ?k4 ?k5 ?kA ?kF ?kK ?k6 ?k7 ?k8 ?k9 ?kB ?kD ?_ ?c2 ?c3 ?c4; (case kA => exact rfl); (case kF => exact rfl); (case kK => assumption); (case k1 => k_asm); (case k2 => k_asm); (case k3 => k_asm); (case k4 => k_asm); (case k5 => k_asm); (case k6 => k_is); (case k7 => k_is); (case k8 => ktr_room); (case k9 => exact BindsTo.of_eq rfl); (case kB => exact rfl); (case kD => decide +kernel); (case c2 => exact rfl); (case c3 => exact rfl); (case c4 => exact rfl); k_whole; intro g' L' h' tk' cells' FG' F' N' Y' B' X' T' l1; (try k_lt l1); k_cells Y'; (try simp only [List.cons_append, List.nil_append] at N'); (try dsimp only); (try k_fold)))

theorem pair_at {tl : List (Addr × Obj)} : ∀ {vs : List Value} {ps : List (Int × Int)} {i : Nat} {v : Value}, DatAll tl vs (ps.map pairD) → vs[i]? = some v →
    ∃ (T : Addr) (a b : Int) (ta tb : Tok) (k : Nat), v = .ref T ∧ ps[i]? = some (a, b) ∧ (T, ({ cls := .type "tuple", data := .seq #[.int a ta, .int b tb] k } : Obj)) ∈ tl := by
  intro vs
  induction vs with
  | nil => intro ps i v _ h; simp at h
  | cons u vs ih =>
    intro ps i v hD h
    cases ps with
    | nil => cases hD
    | cons p ps =>
      rw [List.map_cons] at hD
      cases hD with
      | cons h1 h2 =>
        cases i with
        | zero =>
          simp only [List.getElem?_cons_zero, Option.some.injEq] at h
          subst h
          cases h1 with
          | tuple hm hd =>
            cases hd with
            | cons x1 r1 =>
              cases x1
              cases r1 with
              | cons x2 r2 =>
                cases x2
                cases r2
                exact ⟨_, _, _, _, _, _, rfl, rfl, hm⟩
        | succ i =>
          simp only [List.getElem?_cons_succ] at h ⊢
          exact ih h2 h
theorem drop_at {α : Type} {l : List α} {i : Nat} {x : α} (h : l[i]? = some x) : l.drop i = x :: l.drop (i + 1) := by
  obtain ⟨hi, e⟩ := List.getElem?_eq_some_iff.mp h
  rw [List.drop_eq_getElem_cons hi, e]

theorem sub_front {a b c : Addr × Obj} {t news : List (Addr × Obj)} : ∀ p ∈ a :: b :: c :: (t ++ news), p ∈ t ++ a :: b :: c :: news := by
  intro p hp
  simp only [List.mem_cons, List.mem_append] at hp ⊢
  rcases hp with h | h | h | h | h <;> simp [h]

def insI (x : Int) : List Int → List Int
  | [] => [x]
  | y :: r => if x ≤ y then x :: y :: r else y :: insI x r
def isort : List Int → List Int
  | [] => []
  | x :: r => insI x (isort r)
theorem insI_perm (x : Int) : ∀ l : List Int, (insI x l).Perm (x :: l)
  | [] => .refl _
  | y :: r => by
    unfold insI
    split
    · exact .refl _
    · exact ((insI_perm x r).cons y).trans (List.Perm.swap x y r)
theorem isort_perm : ∀ l : List Int, (isort l).Perm l
  | [] => .refl _
  | x :: r => (insI_perm x (isort r)).trans ((isort_perm r).cons x)
theorem insI_sorted (x : Int) : ∀ l : List Int, l.Pairwise (· ≤ ·) → (insI x l).Pairwise (· ≤ ·)
  | [], _ => by simp [insI]
  | y :: r, h => by
    unfold insI
    obtain ⟨h1, h2⟩ := List.pairwise_cons.mp h
    split
    · rename_i hxy
      refine List.pairwise_cons.mpr ⟨fun z hz => ?_, h⟩
      rcases List.mem_cons.mp hz with rfl | hz
      · exact hxy
      · exact Int.le_trans hxy (h1 z hz)
    · rename_i hxy
      refine List.pairwise_cons.mpr ⟨fun z hz => ?_, insI_sorted x r h2⟩
      rcases List.mem_cons.mp ((insI_perm x r).mem_iff.mp hz) with rfl | hz
      · omega
      · exact h1 z hz
theorem isort_sorted : ∀ l : List Int, (isort l).Pairwise (· ≤ ·)
  | [] => .nil
  | x :: r => insI_sorted x _ (isort_sorted r)
theorem isort_is {l l' : List Int} (p : l'.Perm l) (o : l'.Pairwise (· ≤ ·)) : l' = isort l :=
  List.Perm.eq_of_pairwise (fun _ _ _ _ h1 h2 => Int.le_antisymm h1 h2) o (isort_sorted l) (p.trans (isort_perm l).symm)
def dsI (n : Int) : List Int := isort (rawD n)
/-- what divisors gives back: one new list -/
def DvOut (ns : List Int) (tl : List (Addr × Obj)) (r : Value) : Prop := ∃ (a : Addr) (vs : List Value) (c : Nat), r = .ref a ∧ tl = [(a, listOf vs.toArray c)] ∧ IntsAre vs ns

def HitP (s₃ : Shared) (b : Int) (xv : Value) (s₄ : Shared) : Prop := ∃ r t u v h' tk', xv = .ref r ∧ s₄ = { s₃ with heap := h', toks := tk' } ∧ IsRange h' r 0 b 1 t u v ∧ ∀ b o, s₃.heap.get? b = some o → h'.get? b = some o

theorem news_comp {g' h h' : Heap} {L C : Addr} {m : Str → Option Value} {m₃ : Str → Option Value} {news : List (Addr × Obj)} (F : Fr g' L h m) (N : News g' L h news) (hk : ∀ b o, h.get? b = some o → h'.get? b = some o) (hC : h.get? C = none) (hn : h'.Ns C m₃) :
    ∃ oC, LCg.NsObj oC m₃ ∧ News g' L h' ((C, oC) :: news) := by
  obtain ⟨oC, heC, hoC⟩ := LCg.ns_obj hn
  refine ⟨oC, hoC, fun p hp => ?_⟩
  rcases List.mem_cons.mp hp with rfl | hp
  · refine ⟨heC, fun e => ?_, ?_⟩
    · obtain ⟨o, _, _, e1, _⟩ := F.ns
      replace e : C = L := e
      rw [← e, hC] at e1
      cases e1
    · cases q : g'.get? C with
      | none => rfl
      | some o => have := F.keep C o q; rw [hC] at this; cases this
  · exact (N.grown hk) p hp

def DvInv (n : Int) (cM cP : Addr) (B : List (Addr × Obj)) (I : Addr) (i : Nat) (m₁ : Str → Option Value) (nx : List (Addr × Obj)) : Prop :=
  ∃ (fD : Addr) (ys : List Value) (c : Nat) (fs : List Int) (oM oP : Obj) (vM vP : Option Value),
    m₁ (Str.ofString "found") = some (.ref fD) ∧ nx = (fD, listOf ys.toArray c) :: (cM, oM) :: (cP, oP) :: B ∧ oM.data = .cell vM ∧ oP.data = .cell vP ∧
    fD ≠ I ∧ fD ≠ cM ∧ fD ≠ cP ∧ cM < I ∧ cP < I ∧ (∀ p ∈ B, p.1 < I) ∧ (∀ p ∈ B, p.1 ≠ fD) ∧ IntsAre ys fs ∧ okF ((pfI n).drop i) fs = true ∧ ((pfI n).drop i).foldl stepD fs = rawD n

local macro_rules | `(tactic| k_all) => `(tactic| assumption)
theorem dv_step {n a b : Int} {cM cP I D fD ax : Addr} {oI o1 pM pP lo : Obj} {B : List (Addr × Obj)} {i : Nat} {m' : Str → Option Value} {gH h' : Heap} {LL : Addr} {s₁ : Shared} {tk' : Nat} {ys : List Value} {fs : List Int} {vM vP : Option Value}
    (FD : Fr gH LL h' m') (ND : News gH LL h' ((D, LCg.lst ys) :: (I, oI) :: (fD, o1) :: (cM, pM) :: (cP, pP) :: B)) (hD : ∀ p ∈ (I, oI) :: (fD, o1) :: (cM, pM) :: (cP, pP) :: B, p.1 ≠ D)
    (hm : m' (Str.ofString "found") = some (.ref D)) (eM : pM.data = .cell vM) (eP : pP.data = .cell vP) (d4 : cM < I) (d5 : cP < I) (d6 : ∀ p ∈ B, p.1 < I) (hax : (ax, lo) ∈ B)
    (hys : IntsAre ys (stepD fs (a, b))) (hok : okF ((pfI n).drop (i + 1)) (stepD fs (a, b)) = true) (hf : ((a, b) :: (pfI n).drop (i + 1)).foldl stepD fs = rawD n) :
    UnrEndW gH LL s₁ [(I, oI)] (fun m' n' => (ax, lo) ∈ n' ∧ DvInv n cM cP B I (i + 1) m' n') { s₁ with heap := h', toks := tk' } := by
  refine ⟨h', tk', m', (D, LCg.lst ys) :: (cM, pM) :: (cP, pP) :: B, rfl, FD, fun p hp => ND p ?_, fun p hp q hq => ?_, .tail _ (.tail _ (.tail _ hax)), D, ys, ys.length, stepD fs (a, b), pM, pP, vM, vP, hm, rfl, eM, eP, ?_, ?_, ?_, d4, d5, d6, ?_, hys, hok, hf⟩
  · simp only [List.cons_append, List.nil_append, List.mem_cons] at hp ⊢
    rcases hp with h | h | h | h | h <;> simp [h]
  · rw [List.mem_singleton.mp hq]
    simp only [List.mem_cons] at hp
    rcases hp with h | h | h | h
    · rw [h]; exact Ne.symm (hD _ (.head _))
    · rw [h]; exact Nat.ne_of_lt d4
    · rw [h]; exact Nat.ne_of_lt d5
    · exact Nat.ne_of_lt (d6 p h)
  · exact Ne.symm (hD _ (.head _))
  · exact Ne.symm (hD _ (.tail _ (.tail _ (.head _))))
  · exact Ne.symm (hD _ (.tail _ (.tail _ (.tail _ (.head _)))))
  · exact fun p hp => hD p (.tail _ (.tail _ (.tail _ (.tail _ hp))))

set_option maxRecDepth 100000 in
set_option maxHeartbeats 8000000 in
theorem dv_tell (w : World) (mean : ExcName → Option Value) (mg mb : Str → Option Value) (n : Int) (t1 : Tok) (hn : 1 ≤ n) (hn2 : n < 2 ^ 24) (hok : okD n = true) :
    TellR w mean mg mb 40 [.int n t1] 4 (DvOut (dsI n)) := by
  unfold TellR
  k_fill
  intro dp un gd cn cs a ccd cl outer A₀ base h₀ L m news s Q E B F X N T hk hd hu hret
  refine wpAny_call ?_
  k_dflt (walk_at "t_cells")
  k_steps
  rename Fr _ _ _ _ => F1
  refine For_turns F1 ?_
  (try k_fold)
  k_steps
  rename_i gH LL _ _ FG BB XX TT l0 oM oP dM dP lF _ l1 _ N0 _ _ tl1 h9 tk9 F9 N9 lo9 ax vs1 c1 hm1 hD1
  clear F1 N0
  rw [if_neg (by omega)] at hD1
  have hlF : ∀ p ∈ tl1, lF < p.1 := fun p hp => lo9 _ (.head _) p hp
  have hlM : ∀ p ∈ tl1, LL + 1 + 1 < p.1 := fun p hp => lo9 _ (.tail _ (.head _)) p hp
  have hlP : ∀ p ∈ tl1, LL + 1 < p.1 := fun p hp => lo9 _ (.tail _ (.tail _ (.head _))) p hp
  have hbM : ∀ p ∈ tl1 ++ news, p.1 ≠ LL + 1 + 1 := fun p hp => (List.mem_append.mp hp).elim (fun h => Nat.ne_of_gt (hlM p h)) fun h => Nat.ne_of_lt (Nat.lt_succ_of_lt (Nat.lt_succ_of_lt (l0 p h)))
  have hbP : ∀ p ∈ tl1 ++ news, p.1 ≠ LL + 1 := fun p hp => (List.mem_append.mp hp).elim (fun h => Nat.ne_of_gt (hlP p h)) fun h => Nat.ne_of_lt (Nat.lt_succ_of_lt (l0 p h))
  refine for_inv (DvInv n (LL + 1 + 1) (LL + 1) (tl1 ++ news)) rfl F9 (fun p hp => N9 p (sub_front p hp)) (.tail _ (.tail _ (.tail _ (List.mem_append.mpr (.inl hm1))))) rfl rfl ?_ ?_ ?_
  · intro I hI
    refine ⟨lF, [.int 1 _], 0, [1], oM, oP, _, _, rfl, rfl, dM, dP, Nat.ne_of_lt (hI _ (.head _)), Nat.ne_of_gt l1.1, Nat.ne_of_gt l1.2.1, hI _ (.tail _ (.head _)), hI _ (.tail _ (.tail _ (.head _))), fun p hp => hI p (.tail _ (.tail _ (.tail _ hp))), ?_, .cons _ _ .nil, hok, rfl⟩
    intro p hp
    rcases List.mem_append.mp hp with h | h
    · exact Nat.ne_of_gt (hlF p h)
    · exact Nat.ne_of_lt (ktn_ltOf l1.2.2 p h)
  · rintro I i v m₁ nx hh tk oI hv hcI ⟨fD, ys, c, fs, pM, pP, vM, vP, e1, rfl, eM, eP, d1, d2, d3, d4, d5, d6, d7, hys, hokF, hfold⟩ F₁ N₁
    obtain ⟨T, a, b, ta, tb, k, rfl, hpm, hT⟩ := pair_at hD1 hv
    replace d1 := neN d1
    replace d2 := neN d2
    replace d3 := neN d3
    replace d4 := ltN d4
    replace d5 := ltN d5
    replace F₁ : Fr gH LL hh m₁ := F₁
    replace N₁ : News gH LL hh _ := N₁
    have F₂ := fr_name (Str.ofString "found") F₁ e1
    have hTup : IsTup hh T #[.int a ta, .int b tb] := ⟨_, (N₁ _ (.tail _ (.tail _ (.tail _ (.tail _ (List.mem_append.mpr (.inl hT))))))).1, rfl, k, rfl⟩
    clear F₁ F9 N9
    rw [drop_at hpm] at hokF hfold
    simp only [okF, Bool.and_eq_true, decide_eq_true_eq, List.all_eq_true] at hokF
    obtain ⟨⟨⟨⟨⟨⟨o1, o2⟩, o3⟩, o4⟩, o5⟩, o6⟩, o7⟩ := hokF
    try k_fold
    k_steps
    rename_i pP' dP' hb' pM' F' N' dM'
    have hbn : (((b + 1).toNat : Nat) : Int) = b + 1 := Int.toNat_of_nonneg (by omega)
    refine assign_comp2 (g := fun a0 k0 => a0 * a ^ k0.toNat) (n2 := (b + 1).toNat) (vs := ys) (ns := fs) (ax := fD) F' N' (by with_unfolding_all rfl) (by with_unfolding_all rfl) (by decide) rfl (by decide) rfl rfl (by decide) rfl rfl (fun _ => rfl) (fun _ _ => rfl) rfl ?hiter ⟨_, (N' _ (.tail _ (.head _))).1, rfl, c, rfl⟩ hys ?hsz (small_one (by omega) (by omega) (by omega) (by omega)) (by rw [rangeSize_nat]; omega) ?hit ?helt ?fin
    case hiter =>
      intro Q' E' h
      k_dflt (exact nameX_L F' rfl h)
    case hsz => exact Nat.le_trans o6 (by rw [sizeLine_eq]; decide)
    case hit =>
      intro C s₃ m₃ E' hC hn₃ hk₃
      obtain ⟨oC, hoC, N₃⟩ := news_comp F' N' hk₃ hC hn₃
      have F₃ := F'.keeps hk₃
      clear F' N'
      refine wpAny_mono (Q := HitP s₃ (b + 1)) ?_ (fun xv s₄ h => by rw [hbn]; exact h) fun _ _ h => h
      k_steps
      exact ⟨_, _, _, _, _, _, rfl, rfl, by assumption, by assumption⟩
    case helt =>
      intro C s₃ m₃ a0 ta0 k0 tk0 E' hC ha0 hk0 hk1 hn₃ hx₃ hy₃ hk₃
      obtain ⟨oC, hoC, N₃⟩ := news_comp F' N' hk₃ hC hn₃
      have F₃ := F'.keeps hk₃
      clear F' N'
      obtain ⟨hq1, hq2⟩ := o1 a0 ha0
      k_steps
    case fin =>
      intro D h' tk' ys' FD ND hD hys'
      clear F' N'
      replace FD : Fr gH LL h' _ := FD
      replace ND : News gH LL h' _ := ND
      k_steps
      exact dv_step FD ND hD rfl dM' dP' d4 d5 d6 (List.mem_append.mpr (.inl hm1)) hys' o7 hfold
  · rintro I m₁ nx hh tk ⟨fD, ys, c, fs, pM, pP, vM, vP, e1, rfl, eM, eP, d1, d2, d3, d4, d5, d6, d7, hys, hokF, hfold⟩ F₁ N₁
    replace F₁ : Fr gH LL hh m₁ := F₁
    replace N₁ : News gH LL hh _ := N₁
    have F₂ := fr_name (Str.ofString "found") F₁ e1
    clear F₁ F9 N9
    have hlen : vs1.length = (pfI n).length := by rw [hD1.length, List.length_map]
    rw [hlen, List.drop_length] at hokF hfold
    simp only [okF, decide_eq_true_eq] at hokF
    replace hfold : fs = rawD n := hfold
    try k_fold
    k_steps
    rename_i D9 v9 n9 c9 h9' F9' N9' i9 e9 p9 o9 b9 p90 l9 kF9 kN9 _ _
    have hall := ktn_ltOf l9.2.2.2
    refine hret (.ref D9) [(D9, listOf v9.toArray c9)] h9' _ kF9 (fun p hp => kN9 p ?_) (fun q hq p hp => ?_) ⟨D9, v9, c9, rfl, rfl, ?_⟩
    · rcases List.mem_cons.mp hp with h | h
      · exact h ▸ .head _
      · exact .tail _ (.tail _ (.tail _ (.tail _ (List.mem_append.mpr (.inr h)))))
    · rw [List.mem_singleton.mp hp]
      exact hall q (List.mem_append.mpr (.inr hq))
    · have e := isort_is p9 o9
      rw [hfold] at e
      rw [e] at i9
      exact i9
end
end Mine

-- part XE
namespace Mine
section
open PySem PySem.W PyProof.Rows PySem.Calls PySem.Spec
theorem fresh_XE : True := by w_top off; k_with_none; trivial
def pwI (n k : Int) : Int := ((dsI n).map fun d => d ^ k.toNat).sum
def okP (n : Int) : Bool := decide (1 ≤ n) && decide (n < 2 ^ 24) && okD n && decide ((dsI n).length < 64) && (dsI n).all fun d => decide (0 ≤ d) && decide (d < 2 ^ 26)

local macro_rules | `(tactic| walk_at "t_go") => `(tactic| ((case k1 => k_asm); (case k2 => k_asm); (case k3 => k_asm); (case k4 => k_asm); (case k5 => k_asm); (case kK => first | exact rfl | assumption); (case kd => ktr_room); (case ku => ktr_units)))
local macro_rules | `(tactic| walk_at "t_cells") => `(tactic| (refine' code_defC ?k1 ?k2 ?k3 ?k4 ?k5 ?kA ?kF ?kK ?k6 ?k7 ?k8 ?k9 ?kB ?kD ?_ ?c2 ?c3 ?c4; (case kA => exact rfl); (case kF => exact rfl); (case kK => assumption); (case k1 => k_asm); (case k2 => k_asm); (case k3 => k_asm); (case k4 => k_asm); (case k5 => k_asm); (case k6 => k_is); (case k7 => k_is); (case k8 => ktr_room); (case k9 => exact BindsTo.of_eq rfl); (case kB => exact rfl); (case kD => decide +kernel); (case c2 => exact rfl); (case c3 => exact rfl); (case c4 => exact rfl); k_whole; intro g' L' h' tk' cells' FG' F' N' Y' B' X' T' l1; (try k_lt l1); k_cells Y'; (try simp only [List.cons_append, List.nil_append] at N'); (try dsimp only); (try k_fold)))
local macro_rules | `(tactic| walk_at "call ref") => `(tactic| (k_here; (with_reducible show wpAny _ _ (call (Value.ref 40) [Value.int _ _]) _ _ _); k_dflt (refine' tellR_use (dv_tell _ _ _ _ _ _ ?p1 ?p2 ?p3) ?k1 ?k2 ?k3 ?k4 ?k5 ?kK ?kd ?ku ?_; (case p1 => omega); (case p2 => omega); (case p3 => assumption); walk_at "t_go"; intro r9 tl9 h9 tk9 F9 N9 lo9 hR9; obtain ⟨a9, vs9, c9, e9, et9, hI9⟩ := hR9; subst e9; subst et9; (try simp only [List.cons_append, List.nil_append] at N9); (try dsimp only); (try k_fold))))

local macro_rules | `(tactic| walk_at "eval ListComp") => `(tactic| (k_here; k_dflt (refine LCg.ListComp_U (F₀ := by k_asm) (by with_unfolding_all rfl) (by decide) (by rfl) (by decide) (by rfl) ?_)))
local macro_rules | `(tactic| walk_at "binaryOp Pow int int") => `(tactic| (k_here; (with_reducible refine pow_int_small ?kb1 ?kb2 ?kb3 ?_); (case kb1 => omega); (case kb2 => omega); (case kb3 => ((obtain ⟨hb1, hb2⟩ := (‹∀ x ∈ dsI _, 0 ≤ x ∧ x < 2 ^ 26›) _ (by assumption)); omega))))
set_option maxRecDepth 100000 in
set_option maxHeartbeats 8000000 in
theorem pw_tell (w : World) (mean : ExcName → Option Value) (mg mb : Str → Option Value) (n k : Int) (t1 t2 : Tok) (hok : okP n = true) (hk0 : 0 ≤ k) (hk1 : k ≤ 2) :
    TellI w mean mg mb 52 [.int n t1, .int k t2] 5 True (fun t => .int (pwI n k) t) := by
  unfold TellI
  k_fill
  intro dp un gd cn cs a ccd cl outer A₀ base h₀ L m news s Q E B F X N T hk hd hu hret
  simp only [okP, Bool.and_eq_true, decide_eq_true_eq, List.all_eq_true] at hok
  obtain ⟨⟨⟨⟨o1, o2⟩, o3⟩, o5⟩, o4⟩ := hok
  refine wpAny_call ?_
  k_dflt (walk_at "t_cells")
  k_steps
  all_goals (refine cb_retI (hret trivial) rfl (by assumption) (cb_drop (by assumption) ?_); kcj_all)

def primeI (n : Int) : Bool := if 2 ≤ n then decide (ldI n 2 = n) else false
local macro_rules | `(tactic| walk_at "call ref") => `(tactic| (k_here; (with_reducible show wpAny _ _ (call (Value.ref 21) [Value.int _ _, Value.int _ _]) _ _ _); k_dflt (refine' tellI_use (ld_tell _ _ _ _ _ _ _ _ ?p1 ?p2 ?p3 ?p4) ?k1 ?k2 ?k3 ?k4 ?k5 ?kK ?kd ?ku ?_; (case p1 => omega); (case p2 => omega); (case p3 => omega); (case p4 => omega); walk_at "t_go"; intro _ t9 h9 tk9 F9 N9; (try dsimp only); (try k_fold))))

set_option maxRecDepth 100000 in
set_option maxHeartbeats 8000000 in
theorem ip_tell (w : World) (mean : ExcName → Option Value) (mg mb : Str → Option Value) (n : Int) (t1 : Tok) (h0 : 1 ≤ n) (h1 : n < 2 ^ 40) :
    TellI w mean mg mb 28 [.int n t1] 2 True (fun _ => .bool (primeI n)) := by
  unfold TellI
  k_fill
  intro dp un gd cn cs a ccd cl outer A₀ base h₀ L m news s Q E B F X N T hk hd hu hret
  refine wpAny_call ?_
  (k_dflt cell_enter)
  k_steps
  · refine cb_retB (hret trivial) ?_ (by assumption) (by assumption)
    unfold primeI
    rw [if_pos (by assumption)]
    rfl
  · refine cb_retB (hret trivial) ?_ (by assumption) (by assumption)
    unfold primeI
    rw [if_neg (by assumption)]
    simp only [decide_eq_false_iff_not]
    assumption

def alF : Nat → Int → Int → Bool
  | 0, n, _ => decide (1 < n)
  | f + 1, n, d => if d * d ≤ n then (if Int.fmod n d = 0 then false else alF f n (d + 1)) else decide (1 < n)
def alG (n d : Int) : Bool := alF (n + 2 - d).toNat n d
def aloneI (n : Int) : Bool := alG n 2
theorem alF_enough (n : Int) : ∀ (f g : Nat) (d : Int), 2 ≤ d → (n + 2 - d).toNat ≤ f → (n + 2 - d).toNat ≤ g → alF f n d = alF g n d := by
  intro f
  induction f with
  | zero =>
    intro g d hd h1 _
    cases g with
    | zero => rfl
    | succ g =>
      have := sq_ge hd
      show _ = alF (g + 1) n d
      unfold alF
      rw [if_neg (by omega)]
  | succ f ih =>
    intro g d hd h1 h2
    cases g with
    | zero =>
      have := sq_ge hd
      show alF (f + 1) n d = _
      unfold alF
      rw [if_neg (by omega)]
    | succ g =>
      unfold alF
      split
      · split
        · rfl
        · exact ih g (d + 1) (by omega) (by omega) (by omega)
      · rfl
theorem alG_step {n d : Int} (hd : 2 ≤ d) : alG n d = if d * d ≤ n then (if Int.fmod n d = 0 then false else alG n (d + 1)) else decide (1 < n) := by
  unfold alG
  rw [alF_enough n (n + 2 - d).toNat ((n + 2 - d).toNat + 1) d hd (Nat.le_refl _) (by omega)]
  show (if d * d ≤ n then (if Int.fmod n d = 0 then false else alF (n + 2 - d).toNat n (d + 1)) else decide (1 < n)) = _
  split
  · split
    · rfl
    · exact alF_enough _ _ _ _ (by omega) (by omega) (by omega)
  · rfl
theorem al_keep {n d : Int} (hn2 : n < 2 ^ 40) (h : 2 ≤ d ∧ d < 2 ^ 41 ∧ alG n d = aloneI n) (h1 : d * d ≤ n) (h2 : Int.fmod n d ≠ 0) : 2 ≤ d + 1 ∧ d + 1 < 2 ^ 41 ∧ alG n (d + 1) = aloneI n := by
  obtain ⟨a, _, c⟩ := h
  have := sq_ge a
  rw [alG_step a, if_pos h1, if_neg h2] at c
  exact ⟨by omega, by omega, c⟩
theorem al_end1 {n d : Int} (a : 2 ≤ d) (c : alG n d = aloneI n) (h1 : d * d ≤ n) (h2 : Int.fmod n d = 0) : aloneI n = false := by
  rw [alG_step a, if_pos h1, if_pos h2] at c
  exact c.symm
theorem al_end2 {n d : Int} (a : 2 ≤ d) (c : alG n d = aloneI n) (h1 : ¬ d * d ≤ n) : aloneI n = decide (1 < n) := by
  rw [alG_step a, if_neg h1] at c
  exact c.symm

set_option maxRecDepth 100000 in
set_option maxHeartbeats 8000000 in
theorem al_tell (w : World) (mean : ExcName → Option Value) (mg mb : Str → Option Value) (n : Int) (t1 : Tok) (hn : 1 ≤ n) (hn2 : n < 2 ^ 40) :
    TellI w mean mg mb 66 [.int n t1] 1 True (fun _ => .bool (aloneI n)) := by
  unfold TellI
  k_fill
  intro dp un gd cn cs a ccd cl outer A₀ base h₀ L m news s Q E B F X N T hk hd hu hret
  refine wpAny_call ?_
  (k_dflt cell_enter)
  k_with "exec While Compare cons nil" => k_while (fun _ d => 2 ≤ d ∧ d < 2 ^ 41 ∧ alG n d = aloneI n) (fun _ d => (n + 2 - d).toNat) "d"
  k_with "state" => first | exact al_keep hn2 ⟨by assumption, by assumption, by assumption⟩ (by assumption) (by assumption) | exact ⟨by omega, by omega, rfl⟩
  k_with "measure" => ((have hsq := sq_ge (by assumption)); omega)
  k_steps
  · exact cb_retB (hret trivial) (al_end1 (by assumption) (by assumption) (by assumption) (by assumption)).symm (by assumption) (by assumption)
  · exact cb_retB (hret trivial) (al_end2 (by assumption) (by assumption) (by assumption)).symm (by assumption) (by assumption)
end
end Mine

-- part XF
namespace Mine
section
open PySem PySem.W PyProof.Rows PySem.Calls PySem.Spec
theorem fresh_XF : True := by w_top off; k_with_none; trivial
local macro_rules | `(tactic| walk_at "t_go") => `(tactic| ((case k1 => k_asm); (case k2 => k_asm); (case k3 => k_asm); (case k4 => k_asm); (case k5 => k_asm); (case kK => first | exact rfl | assumption); (case kd => ktr_room); (case ku => ktr_units)))
local macro_rules | `(tactic| walk_at "t_int") => `(tactic| (walk_at "t_go"; intro _ t9 h9 tk9 F9 N9; (try dsimp only); (try k_fold)))
local macro_rules | `(tactic| walk_at "call ref") => `(tactic| (k_here; (with_reducible show wpAny _ _ (call (Value.ref 52) [Value.int _ _, Value.int _ _]) _ _ _); k_dflt (refine' tellI_use (pw_tell _ _ _ _ _ _ _ _ ?p1 ?p2 ?p3) ?k1 ?k2 ?k3 ?k4 ?k5 ?kK ?kd ?ku ?_; (case p1 => assumption); (case p2 => omega); (case p3 => omega); walk_at "t_int")))

set_option maxRecDepth 100000 in
set_option maxHeartbeats 8000000 in
theorem ls_tell (w : World) (mean : ExcName → Option Value) (mg mb : Str → Option Value) (n : Int) (t1 : Tok) (hok : okP n = true) :
    TellI w mean mg mb 59 [.int n t1] 6 True (fun t => .int (pwI n 1 - n) t) := by
  unfold TellI
  k_fill
  intro dp un gd cn cs a ccd cl outer A₀ base h₀ L m news s Q E B F X N T hk hd hu hret
  refine wpAny_call ?_
  (k_dflt cell_enter)
  k_steps
  all_goals exact cb_retI (hret trivial) rfl (by assumption) (by assumption)

local macro_rules | `(tactic| walk_at "call ref") => `(tactic| (k_here; (with_reducible show wpAny _ _ (call (Value.ref 59) [Value.int _ _]) _ _ _); k_dflt (refine' tellI_use (ls_tell _ _ _ _ _ _ ?p1) ?k1 ?k2 ?k3 ?k4 ?k5 ?kK ?kd ?ku ?_; (case p1 => assumption); walk_at "t_int")))
theorem ip_tell' (w : World) (mean : ExcName → Option Value) (mg mb : Str → Option Value) (n : Int) (t1 : Tok) (h0 : 1 ≤ n) (h1 : n < 2 ^ 40) (e : primeI n = aloneI n) :
    TellI w mean mg mb 28 [.int n t1] 2 True (fun _ => .bool (aloneI n)) := e ▸ ip_tell w mean mg mb n t1 h0 h1
local macro_rules | `(tactic| walk_at "call ref") => `(tactic| (k_here; (with_reducible show wpAny _ _ (call (Value.ref 28) [Value.int _ _]) _ _ _); k_dflt (refine' tellI_use (ip_tell' _ _ _ _ _ _ ?p1 ?p2 ?p3) ?k1 ?k2 ?k3 ?k4 ?k5 ?kK ?kd ?ku ?_; (case p1 => omega); (case p2 => omega); (case p3 => with_reducible assumption); walk_at "t_int")))
local macro_rules | `(tactic| walk_at "call ref") => `(tactic| (k_here; (with_reducible show wpAny _ _ (call (Value.ref 66) [Value.int _ _]) _ _ _); k_dflt (refine' tellI_use (al_tell _ _ _ _ _ _ ?p1 ?p2) ?k1 ?k2 ?k3 ?k4 ?k5 ?kK ?kd ?ku ?_; (case p1 => omega); (case p2 => omega); walk_at "t_int")))

local macro_rules | `(tactic| walk_at "binaryOp Mult int int") => `(tactic| (k_here; (with_reducible refine PyProof.Rows.mul_int ?_ ?hm); (case hm => first | exact PySem.IntMulOk.of_left (PySem.intBits_le_64 (by omega) (by omega)) | exact PySem.IntMulOk.of_right (PySem.intBits_le_64 (by omega) (by omega)))))
local macro_rules | `(tactic| walk_at "binaryOp Pow int int") => `(tactic| (k_here; (with_reducible refine pow_int_small ?kb1 ?kb2 ?kb3 ?_); (case kb1 => omega); (case kb2 => omega); (case kb3 => decide)))
local macro_rules | `(tactic| ke_room) => `(tactic| ktr_units)
local macro_rules | `(tactic| walk_at "compareOp NotIn") => `(tactic| (k_here; (with_reducible show wpAny _ _ (compareOp CmpOp.NotIn (Value.bool _) (Value.ref _)) _ _ _); k_dflt (refine SeqAt.notIn_list_reads (by ke_read) (Reads.bool _) ?x1 ?x2 ?x3 ?_; (case x1 => rfl); (case x2 => rfl); (case x3 => (refine Nat.lt_of_le_of_lt (Nat.add_le_add_left (Nat.min_le_right _ _) _) ?_; show _ + 1 + 0 < cLine; ktr_units))); simp only [List.any_cons, List.any_nil, PyData.eqv]))
def firstQ (q : Int) : Int := 3 * 2 ^ (q - 1).toNat - 1
def secondQ (q : Int) : Int := 3 * 2 ^ q.toNat - 1
def thirdQ (q : Int) : Int := 9 * 2 ^ (2 * q - 1).toNat - 1
def thNone (q : Int) : Bool := !(aloneI (firstQ q) == false || (aloneI (secondQ q) == false || (aloneI (thirdQ q) == false || false)))
def inR (x : Int) : Bool := decide (1 ≤ x) && decide (x < 2 ^ 40)
def thA (q : Int) : Bool := inR (firstQ q) && inR (secondQ q) && inR (thirdQ q)
def thB (q : Int) : Bool := (primeI (firstQ q) == aloneI (firstQ q)) && (primeI (secondQ q) == aloneI (secondQ q)) && (primeI (thirdQ q) == aloneI (thirdQ q))
def thC (q : Int) : Bool := okP (2 ^ q.toNat * firstQ q * secondQ q) && okP (2 ^ q.toNat * thirdQ q)
def thD (q : Int) : Bool := (if pwI (2 ^ q.toNat * firstQ q * secondQ q) 1 - 2 ^ q.toNat * firstQ q * secondQ q = 2 ^ q.toNat * thirdQ q then pwI (2 ^ q.toNat * thirdQ q) 1 - 2 ^ q.toNat * thirdQ q == 2 ^ q.toNat * firstQ q * secondQ q else false) == thNone q

set_option maxRecDepth 100000 in
set_option maxHeartbeats 8000000 in
theorem th_tell (w : World) (mean : ExcName → Option Value) (mg mb : Str → Option Value) (q : Int) (t1 : Tok) (h0 : 2 ≤ q) (h1 : q ≤ 7) (hA : thA q = true) (hB : thB q = true) (hC : thC q = true) (hD : thD q = true) :
    TellI w mean mg mb 73 [.int q t1] 20 True (fun _ => .bool true) := by
  simp only [thA, thB, thC, inR, Bool.and_eq_true, decide_eq_true_eq, beq_iff_eq] at hA hB hC
  obtain ⟨⟨f1, f2⟩, f3⟩ := hA
  obtain ⟨⟨e1, e2⟩, e3⟩ := hB
  obtain ⟨g1, g2⟩ := hC
  have fin1 : pwI (2 ^ q.toNat * firstQ q * secondQ q) 1 - 2 ^ q.toNat * firstQ q * secondQ q = 2 ^ q.toNat * thirdQ q → ((pwI (2 ^ q.toNat * thirdQ q) 1 - 2 ^ q.toNat * thirdQ q == 2 ^ q.toNat * firstQ q * secondQ q) == thNone q) = true := fun h => by
    unfold thD at hD
    rw [if_pos h] at hD
    exact hD
  have fin2 : pwI (2 ^ q.toNat * firstQ q * secondQ q) 1 - 2 ^ q.toNat * firstQ q * secondQ q ≠ 2 ^ q.toNat * thirdQ q → ((pwI (2 ^ q.toNat * firstQ q * secondQ q) 1 - 2 ^ q.toNat * firstQ q * secondQ q == 2 ^ q.toNat * thirdQ q) == thNone q) = true := fun h => by
    unfold thD at hD
    rw [if_neg h] at hD
    rw [beq_false_of_ne h]
    exact hD
  clear hD
  unfold thNone at fin1 fin2
  simp only [firstQ, secondQ, thirdQ] at f1 f2 f3 e1 e2 e3 g1 g2 fin1 fin2
  unfold TellI
  k_fill
  intro dp un gd cn cs a ccd cl outer A₀ base h₀ L m news s Q E B F X N T hk hd hu hret
  refine wpAny_call ?_
  (k_dflt cell_enter)
  k_steps
  · refine cb_retB (hret trivial) (fin1 (by assumption)) (by assumption) (cb_drop (by assumption) ?_)
    kcj_all
  · refine cb_retB (hret trivial) (fin2 (by assumption)) (by assumption) (cb_drop (by assumption) ?_)
    kcj_all
end
end Mine

-- part XG
namespace Mine
section
open PySem PySem.W PyProof.Rows PySem.Calls PySem.Spec
theorem fresh_XG : True := by w_top off; k_with_none; trivial
def DrawTell (w : World) (mean : ExcName → Option Value) (mg mb : Str → Option Value) : Prop :=
  ∀ (P S : Addr) (c c' : Nat) (vs : List Value) (ns : List Int) (spot many : Int) (t t1 : Tok),
  ∀ (dp un : Nat) (gd : Option (List Code)) (cn : Str) (cs : Scope) (a : Addr) (ccd : Value) (cl : List (Str × Addr)) (outer : List Env) (A₀ : Around) (base h₀ : Heap) (L : Addr) (m : Str → Option Value) (news : List (Addr × Obj)) (s : Shared) (Q E : Value → Shared → Prop),
    Below A₀ base outer h₀ → Fr h₀ L s.heap m → (hd.heap_39 w.params).In h₀ → News h₀ L s.heap ((P, listOf #[.ref S, .int spot t] c) :: (S, listOf vs.toArray c') :: news) → Top hd.view_39 (looseW hd.view_39 []) mean mg mb h₀ → cs.kind = .function →
    IntsAre vs ns → ns.length ≤ 4 → S < P → (∀ p ∈ news, p.1 ≠ P) → 0 ≤ spot → spot ≤ 3 → 1 ≤ many → many < 1000 →
    dp + 5 < recursionLimit → un + 8 * 20 < cLine →
    (∀ (v : Int) (t2 t3 : Tok) (h' : Heap) (tk' : Nat), 0 ≤ v → v < many → Fr h₀ L h' m → News h₀ L h' ((P, listOf #[.ref S, .int (spot + 1) t2] c) :: (S, listOf vs.toArray c') :: news) → Q (.int v t3) { s with heap := h', toks := tk' }) →
    wpAny (model PySem.Challenge.rw_xm0112_01.row.prog w) (ktrTop dp un gd cn cs L a ccd cl outer) (call (.ref 47) [.ref P, .int many t1]) Q E s

local macro_rules | `(tactic| k_all) => `(tactic| assumption)
set_option maxRecDepth 100000 in
set_option maxHeartbeats 8000000 in
theorem dr_tell (w : World) (mean : ExcName → Option Value) (mg mb : Str → Option Value) : DrawTell w mean mg mb := by
  unfold DrawTell
  k_fill
  intro P S c c' vs ns spot many t t1 dp un gd cn cs a ccd cl outer A₀ base h₀ L m news s Q E B F X N T hk hI hlen hSP hoff hs0 hs1 hm0 hm1 hd hu hret
  replace hSP := ltN hSP
  refine wpAny_call ?_
  (k_dflt cell_enter)
  k_steps
  · exact hret _ _ _ _ _ (fmod_lo _ (by omega)) (fmod_hi _ (by omega)) (by assumption) (by assumption)
  · rename_i kF9 kN9 _ _
    exact hret _ _ _ _ _ (fmod_lo _ (by omega)) (fmod_hi _ (by omega)) kF9 fun q hq => kN9 q (.tail _ hq)
end
end Mine

-- part XN2
namespace Mine
section
set_option maxRecDepth 100000
theorem okP_0 : ((List.range 36).all fun i => okP ((i : Int) + 1)) = true := by decide +kernel
theorem okP_1 : ((List.range 36).all fun i => okP ((i : Int) + 37)) = true := by decide +kernel
theorem okP_2 : ((List.range 36).all fun i => okP ((i : Int) + 73)) = true := by decide +kernel
theorem okP_3 : ((List.range 36).all fun i => okP ((i : Int) + 109)) = true := by decide +kernel
theorem okP_4 : ((List.range 36).all fun i => okP ((i : Int) + 145)) = true := by decide +kernel
theorem okP_5 : ((List.range 36).all fun i => okP ((i : Int) + 181)) = true := by decide +kernel
theorem okP_6 : ((List.range 36).all fun i => okP ((i : Int) + 217)) = true := by decide +kernel
theorem okP_7 : ((List.range 36).all fun i => okP ((i : Int) + 253)) = true := by decide +kernel
theorem okP_8 : ((List.range 36).all fun i => okP ((i : Int) + 289)) = true := by decide +kernel
theorem okP_9 : ((List.range 36).all fun i => okP ((i : Int) + 325)) = true := by decide +kernel
theorem okP_10 : ((List.range 36).all fun i => okP ((i : Int) + 361)) = true := by decide +kernel
theorem okP_11 : ((List.range 36).all fun i => okP ((i : Int) + 397)) = true := by decide +kernel
theorem okP_12 : ((List.range 36).all fun i => okP ((i : Int) + 433)) = true := by decide +kernel
theorem okP_13 : ((List.range 36).all fun i => okP ((i : Int) + 469)) = true := by decide +kernel
theorem okP_14 : ((List.range 36).all fun i => okP ((i : Int) + 505)) = true := by decide +kernel
theorem okP_15 : ((List.range 36).all fun i => okP ((i : Int) + 541)) = true := by decide +kernel
theorem okP_go {x : Int} (c : Int) (h : ((List.range 36).all fun i => okP ((i : Int) + c)) = true) (h0 : c ≤ x) (h1 : x < c + 36) : okP x = true := by
  have h := List.all_eq_true.mp h (x - c).toNat (List.mem_range.mpr (by omega))
  have e : (((x - c).toNat : Nat) : Int) + c = x := by omega
  rw [e] at h
  exact h
theorem okP_small {x : Int} (h0 : 1 ≤ x) (h1 : x ≤ 576) : okP x = true := by
  have hx : (1 ≤ x ∧ x < 1 + 36) ∨ (37 ≤ x ∧ x < 37 + 36) ∨ (73 ≤ x ∧ x < 73 + 36) ∨ (109 ≤ x ∧ x < 109 + 36) ∨ (145 ≤ x ∧ x < 145 + 36) ∨ (181 ≤ x ∧ x < 181 + 36) ∨ (217 ≤ x ∧ x < 217 + 36) ∨ (253 ≤ x ∧ x < 253 + 36) ∨ (289 ≤ x ∧ x < 289 + 36) ∨ (325 ≤ x ∧ x < 325 + 36) ∨ (361 ≤ x ∧ x < 361 + 36) ∨ (397 ≤ x ∧ x < 397 + 36) ∨ (433 ≤ x ∧ x < 433 + 36) ∨ (469 ≤ x ∧ x < 469 + 36) ∨ (505 ≤ x ∧ x < 505 + 36) ∨ (541 ≤ x ∧ x < 541 + 36) := by omega
  rcases hx with ⟨a, b⟩ | ⟨a, b⟩ | ⟨a, b⟩ | ⟨a, b⟩ | ⟨a, b⟩ | ⟨a, b⟩ | ⟨a, b⟩ | ⟨a, b⟩ | ⟨a, b⟩ | ⟨a, b⟩ | ⟨a, b⟩ | ⟨a, b⟩ | ⟨a, b⟩ | ⟨a, b⟩ | ⟨a, b⟩ | ⟨a, b⟩
  · exact okP_go _ okP_0 a b
  · exact okP_go _ okP_1 a b
  · exact okP_go _ okP_2 a b
  · exact okP_go _ okP_3 a b
  · exact okP_go _ okP_4 a b
  · exact okP_go _ okP_5 a b
  · exact okP_go _ okP_6 a b
  · exact okP_go _ okP_7 a b
  · exact okP_go _ okP_8 a b
  · exact okP_go _ okP_9 a b
  · exact okP_go _ okP_10 a b
  · exact okP_go _ okP_11 a b
  · exact okP_go _ okP_12 a b
  · exact okP_go _ okP_13 a b
  · exact okP_go _ okP_14 a b
  · exact okP_go _ okP_15 a b
theorem okD_small {x : Int} (h0 : 1 ≤ x) (h1 : x ≤ 576) : okD x = true := by
  have h := okP_small h0 h1
  simp only [okP, Bool.and_eq_true] at h
  exact h.1.1.2
end
end Mine

-- part XL0
namespace Mine
section
open PySem PySem.W PyProof.Rows PySem.Calls PySem.Spec
theorem fresh_XL0 : True := by w_top off; k_with_none; trivial
set_option maxRecDepth 100000

def defAt (n : Nat) : List Stmt × Scope := match PySem.Challenge.pw_xm0112_01.main.body.drop n with
  | (.FunctionDef _ _ b _ _ _ sc _ _ _) :: _ => (b, sc)
  | _ => ([], { kind := .function, names := [], isGenerator := false, isCoroutine := false, more := [] })
def lawS (i : Nat) : Stmt := (defAt 11).1.getD i (.Pass ⟨0, 0, 0, 0⟩)
abbrev lawE (L fa : Addr) (cd : Value) : Env := envOfC (Str.ofString "law") (defAt 11).2 L fa cd

theorem tab_of {P : Int → Bool} {N : Nat} (h : ((List.range N).all fun i => P (i : Int)) = true) {x : Int} (h0 : 0 ≤ x) (h1 : x < N) : P x = true := by
  have h := List.all_eq_true.mp h x.toNat (List.mem_range.mpr (by omega))
  have e : ((x.toNat : Nat) : Int) = x := Int.toNat_of_nonneg h0
  rw [e] at h
  exact h
theorem ds_is_tab : ((List.range 24).all fun i => (fun m => decide (dsI m = List.foldl (fun l' k' => if Int.fmod m k' = 0 then l' ++ [k'] else l') [] (rangeKs 1 (m + 1 - 1).toNat))) ((i : Int) + 1)) = true := by decide +kernel
theorem ds_is {m : Int} (h0 : 1 ≤ m) (h1 : m ≤ 24) : dsI m = List.foldl (fun l' k' => if m.fmod k' = 0 then l' ++ [k'] else l') [] (rangeKs 1 (m + 1 - 1).toNat) := by
  have h := tab_of (P := fun x => (fun m => decide (dsI m = List.foldl (fun l' k' => if Int.fmod m k' = 0 then l' ++ [k'] else l') [] (rangeKs 1 (m + 1 - 1).toNat))) (x + 1)) ds_is_tab (x := m - 1) (by omega) (by omega)
  rw [show m - 1 + 1 = m by omega] at h
  exact of_decide_eq_true h
theorem ne_same_ints {prog : Program} {w : World} {A : Around} {E : Value → Shared → Prop} {s : Shared} {a b : Addr} {xs ys : List Value} {ns ms : List Int} {Q : Value → Shared → Prop}
    (ha : s.heap.IsList a xs.toArray) (hb : s.heap.IsList b ys.toArray) (hi : IntsAre xs ns) (hj : IntsAre ys ms) (hu : A.units + 64 < cLine) (e : ns = ms) (h : Q (.bool false) s) :
    wpAny (model prog w) A (compareOp .NotEq (.ref a) (.ref b)) Q E s := ke_ne_ints ha hb hi hj hu (by rw [decide_eq_true e]; exact h)

local macro_rules | `(tactic| walk_at "t_go") => `(tactic| ((case k1 => k_asm); (case k2 => k_asm); (case k3 => k_asm); (case k4 => k_asm); (case k5 => k_asm); (case kK => first | exact rfl | assumption); (case kd => ktr_room); (case ku => ktr_units)))
local macro_rules | `(tactic| walk_at "call ref") => `(tactic| (k_here; (with_reducible show wpAny _ _ (call (Value.ref 40) [Value.int _ _]) _ _ _); k_dflt (refine' tellR_use (dv_tell _ _ _ _ _ _ ?p1 ?p2 ?p3) ?k1 ?k2 ?k3 ?k4 ?k5 ?kK ?kd ?ku ?_; (case p1 => omega); (case p2 => omega); (case p3 => exact okD_small (by omega) (by omega)); walk_at "t_go"; intro r9 tl9 h9 tk9 F9 N9 lo9 hR9; obtain ⟨a9, vs9, c9, e9, et9, hI9⟩ := hR9; subst e9; subst et9; (try simp only [List.cons_append, List.nil_append] at N9); (try dsimp only); (try k_fold))))
local macro_rules | `(tactic| walk_at "compareOp NotEq ref ref") => `(tactic| (k_here; k_dflt (refine' ne_same_ints (by is_list) (by is_list) ?hi ?hj (by ke_room) ?he ?_; (case hi => assumption); (case hj => assumption); (case he => exact ds_is (by omega) (by omega)))))

set_option maxHeartbeats 8000000 in
theorem st2 (w : World) (mean : ExcName → Option Value) (mg mb : Str → Option Value) {h₀ : Heap} {L fa : Addr} {cd : Value} {k mm n : Int} {s : Shared} {Q : Flow → Shared → Prop} {E : Value → Shared → Prop}
    (B : Below callerA h₀ [] h₀) (X : (hd.heap_39 w.params).In h₀) (T : Top hd.view_39 (looseW hd.view_39 []) mean mg mb h₀) {m : Str → Option Value} {op on om ok : Obj} {vp : Option Value} {tk tm tn : Tok}
    (F : Fr h₀ L s.heap m) (N : News h₀ L s.heap [(L + 1 + 1 + 1 + 1, op), (L + 1 + 1 + 1, on), (L + 1 + 1, om), (L + 1, ok)])
    (dp : op.data = .cell vp) (dn : on.data = .cell (some (.int n tn))) (dm : om.data = .cell (some (.int mm tm))) (dk : ok.data = .cell (some (.int k tk)))
    (hm0 : 1 ≤ mm) (hm1 : mm ≤ 24)
    (h : ∀ h' tk', Fr h₀ L h' m → News h₀ L h' [(L + 1 + 1 + 1 + 1, op), (L + 1 + 1 + 1, on), (L + 1 + 1, om), (L + 1, ok)] → Q .next { s with heap := h', toks := tk' }) :
    wpAny (model PySem.Challenge.rw_xm0112_01.row.prog w) (callerA.deeper (lawE L fa cd)) (exec (lawS 2) (lawE L fa cd)) Q E s := by
  revert X
  k_fill
  intro X
  delta lawS lawE defAt
  dsimp only [PySem.Challenge.pw_xm0112_01, List.drop, List.getD]
  dsimp only [List.getElem?_cons_zero, List.getElem?_cons_succ, Option.getD]
  k_steps
  all_goals exact h _ _ (by assumption) (cb_drop (by assumption) (by kcj_all))
end
end Mine

-- part XL1
namespace Mine
section
open PySem PySem.W PyProof.Rows PySem.Calls PySem.Spec
theorem fresh_XL1 : True := by w_top off; k_with_none; trivial
local macro_rules | `(tactic| walk_at "t_pad") => `(tactic| skip)
set_option maxRecDepth 100000

def termQ (k a b : Int) : Int := (List.map (fun k' => a ^ (k * k').toNat) (rangeKs 0 (b + 1 - 0).toNat)).sum
def prodI (m k : Int) : Int := (pfI m).foldl (fun p pm => p * termQ k pm.1 pm.2) 1
def okQ (k : Int) : List (Int × Int) → Int → Bool
  | [], _ => true
  | pm :: r, p => decide (0 ≤ p) && decide (p < 2 ^ 60) && decide (0 ≤ pm.1) && decide (pm.1 < 2 ^ 60) && decide (0 ≤ pm.2) && decide (pm.2 < 1000) && okQ k r (p * termQ k pm.1 pm.2)

local macro_rules | `(tactic| walk_at "t_go") => `(tactic| ((case k1 => k_asm); (case k2 => k_asm); (case k3 => k_asm); (case k4 => k_asm); (case k5 => k_asm); (case kK => first | exact rfl | assumption); (case kd => ktr_room); (case ku => ktr_units)))
local macro_rules | `(tactic| walk_at "t_int") => `(tactic| (walk_at "t_go"; intro _ t9 h9 tk9 F9 N9; (try dsimp only); (try k_fold)))
local macro_rules | `(tactic| walk_at "call ref") => `(tactic| (k_here; (with_reducible show wpAny _ _ (call (Value.ref 35) [Value.int _ _]) _ _ _); k_dflt (refine' tellR_use (pf_tell _ _ _ _ _ _ ?p1 ?p2) ?k1 ?k2 ?k3 ?k4 ?k5 ?kK ?kd ?ku ?_; (case p1 => omega); (case p2 => omega); walk_at "t_go"; intro r9 tl9 h9 tk9 F9 N9 lo9 hR9; obtain ⟨a9, vs9, c9, e9, hm9, hD9⟩ := hR9; subst e9; (try dsimp only); (try k_fold))))

set_option maxHeartbeats 8000000 in
theorem st3 (w : World) (mean : ExcName → Option Value) (mg mb : Str → Option Value) {h₀ : Heap} {L fa : Addr} {cd : Value} {s : Shared} {Q : Flow → Shared → Prop} {E : Value → Shared → Prop}
    (B : Below callerA h₀ [] h₀) (X : (hd.heap_39 w.params).In h₀) (T : Top hd.view_39 (looseW hd.view_39 []) mean mg mb h₀) {m : Str → Option Value} {news : List (Addr × Obj)}
    (F : Fr h₀ L s.heap m) (N : News h₀ L s.heap news)
    (h : ∀ h' tk' t m', m' (Str.ofString "q") = m (Str.ofString "q") → m' (Str.ofString "product") = some (.int 1 t) → Fr h₀ L h' m' → News h₀ L h' news → Q .next { s with heap := h', toks := tk' }) :
    wpAny (model PySem.Challenge.rw_xm0112_01.row.prog w) (callerA.deeper (lawE L fa cd)) (exec (lawS 3) (lawE L fa cd)) Q E s := by
  revert X
  k_fill
  intro X
  delta lawS lawE defAt
  dsimp only [PySem.Challenge.pw_xm0112_01, List.drop, List.getD]
  dsimp only [List.getElem?_cons_zero, List.getElem?_cons_succ, Option.getD]
  k_steps
  rename Fr _ _ _ _ => F9
  exact h _ _ _ _ (by exact rfl) (by exact rfl) F9 (by assumption)

theorem sub_four {a b c d : Addr × Obj} {t : List (Addr × Obj)} : ∀ p ∈ a :: b :: c :: d :: t, p ∈ t ++ [a, b, c, d] := by
  intro p hp
  simp only [List.mem_cons, List.mem_append, List.not_mem_nil, or_false] at hp ⊢
  rcases hp with h | h | h | h | h <;> simp [h]
def LwInv (k mm : Int) (m₀ : Str → Option Value) (cp : Addr) (B : List (Addr × Obj)) (I : Addr) (i : Nat) (m₁ : Str → Option Value) (nx : List (Addr × Obj)) : Prop :=
  ∃ (p : Int) (tp : Tok) (op : Obj) (vp : Option Value), m₁ (Str.ofString "product") = some (.int p tp) ∧ m₁ (Str.ofString "q") = m₀ (Str.ofString "q") ∧ nx = (cp, op) :: B ∧ op.data = .cell vp ∧ cp < I ∧ (∀ p ∈ B, p.1 < I) ∧
    okQ k ((pfI mm).drop i) p = true ∧ ((pfI mm).drop i).foldl (fun p pm => p * termQ k pm.1 pm.2) p = prodI mm k
theorem mulk_le {k j b : Int} (h0 : 0 ≤ k) (h1 : k ≤ 2) (h2 : 0 ≤ j) (h3 : j < b) (h4 : b ≤ 1001) : 0 ≤ k * j ∧ k * j ≤ 1000000 := by
  have h5 := Int.mul_nonneg h0 h2
  have h6 : k * j ≤ 2 * j := Int.mul_le_mul_of_nonneg_right h1 h2
  omega
local macro_rules | `(tactic| walk_at "binaryOp Mult int int") => `(tactic| (k_here; (with_reducible refine PyProof.Rows.mul_int ?_ ?hm); (case hm => first | exact PySem.IntMulOk.of_left (PySem.intBits_le_64 (by omega) (by omega)) | exact PySem.IntMulOk.of_right (PySem.intBits_le_64 (by omega) (by omega)))))
local macro_rules | `(tactic| k_all) => `(tactic| assumption)
local macro_rules | `(tactic| walk_at "binaryOp Pow int int") => `(tactic| (k_here; (with_reducible refine pow_int_small ?kb1 ?kb2 ?kb3 ?_); (case kb1 => exact (mulk_le (by assumption) (by assumption) (by assumption) (by assumption) (by omega)).1); (case kb2 => exact (mulk_le (by assumption) (by assumption) (by assumption) (by assumption) (by omega)).2); (case kb3 => omega)))
theorem lw_step {h₀ h' : Heap} {L cp I ax D : Addr} {k mm a b p : Int} {oI o9 lo : Obj} {B : List (Addr × Obj)} {i : Nat} {m₀ m₁ m' : Str → Option Value} {s₁ : Shared} {tk' : Nat} {t : Tok} {v : Option Value} {oD : Obj}
    (F : Fr h₀ L h' m') (N : News h₀ L h' ((D, oD) :: (I, oI) :: (cp, o9) :: B)) (hp : m' (Str.ofString "product") = some (.int (p * termQ k a b) t)) (hq : m' (Str.ofString "q") = m₁ (Str.ofString "q")) (hq0 : m₁ (Str.ofString "q") = m₀ (Str.ofString "q"))
    (e9 : o9.data = .cell v) (d1 : cp < I) (d2 : ∀ p ∈ B, p.1 < I) (hax : (ax, lo) ∈ B) (hok : okQ k ((pfI mm).drop (i + 1)) (p * termQ k a b) = true)
    (hf : ((a, b) :: (pfI mm).drop (i + 1)).foldl (fun p pm => p * termQ k pm.1 pm.2) p = prodI mm k) :
    UnrEndW h₀ L s₁ [(I, oI)] (fun m' n' => (ax, lo) ∈ n' ∧ LwInv k mm m₀ cp B I (i + 1) m' n') { s₁ with heap := h', toks := tk' } := by
  refine ⟨h', tk', m', (cp, o9) :: B, rfl, F, fun p hp => N p (.tail _ hp), fun p hp q hq => ?_, .tail _ hax, p * termQ k a b, t, o9, v, hp, hq.trans hq0, rfl, e9, d1, d2, hok, hf⟩
  rw [List.mem_singleton.mp hq]
  rcases List.mem_cons.mp hp with h | h
  · rw [h]; exact Nat.ne_of_lt d1
  · exact Nat.ne_of_lt (d2 p h)

set_option maxHeartbeats 8000000 in
theorem st4 (w : World) (mean : ExcName → Option Value) (mg mb : Str → Option Value) {h₀ : Heap} {L fa : Addr} {cd : Value} {k mm n : Int} {s : Shared} {Q : Flow → Shared → Prop} {E : Value → Shared → Prop}
    (B : Below callerA h₀ [] h₀) (X : (hd.heap_39 w.params).In h₀) (T : Top hd.view_39 (looseW hd.view_39 []) mean mg mb h₀) {m : Str → Option Value} {op on om ok : Obj} {vp : Option Value} {tk tm tn t1 : Tok}
    (F : Fr h₀ L s.heap m) (N : News h₀ L s.heap [(L + 1 + 1 + 1 + 1, op), (L + 1 + 1 + 1, on), (L + 1 + 1, om), (L + 1, ok)])
    (dp : op.data = .cell vp) (dn : on.data = .cell (some (.int n tn))) (dm : om.data = .cell (some (.int mm tm))) (dk : ok.data = .cell (some (.int k tk)))
    (hm0 : 1 ≤ mm) (hm1 : mm ≤ 24) (hk0 : 0 ≤ k) (hk1 : k ≤ 2) (hp : m (Str.ofString "product") = some (.int 1 t1)) (hok : okQ k (pfI mm) 1 = true)
    (hE : PassesOwn (model PySem.Challenge.rw_xm0112_01.row.prog w) (callerA.deeper (lawE L fa cd)) (lawE L fa cd) E)
    (h : ∀ h' tk' t m' op' vp', m' (Str.ofString "q") = m (Str.ofString "q") → m' (Str.ofString "product") = some (.int (prodI mm k) t) → op'.data = .cell vp' → Fr h₀ L h' m' → News h₀ L h' [(L + 1 + 1 + 1 + 1, op'), (L + 1 + 1 + 1, on), (L + 1 + 1, om), (L + 1, ok)] → Q .next { s with heap := h', toks := tk' }) :
    wpAny (model PySem.Challenge.rw_xm0112_01.row.prog w) (callerA.deeper (lawE L fa cd)) (exec (lawS 4) (lawE L fa cd)) Q E s := by
  revert X
  k_fill
  intro X
  replace F := fr_name (Str.ofString "product") F hp
  delta lawS lawE defAt
  dsimp only [PySem.Challenge.pw_xm0112_01, List.drop, List.getD]
  dsimp only [List.getElem?_cons_zero, List.getElem?_cons_succ, Option.getD]
  refine For_turns F ?_ (hE := hE)
  try k_fold
  k_steps
  clear F N
  rename_i tl1 h9 tk9 F9 N9 lo9 ax vs1 c1 hm1 hD1
  have hl4 : ∀ p ∈ tl1, L + 1 + 1 + 1 + 1 < p.1 := fun p hp => lo9 _ (.head _) p hp
  have hl3 : ∀ p ∈ tl1, L + 1 + 1 + 1 < p.1 := fun p hp => lo9 _ (.tail _ (.head _)) p hp
  have hb4 : ∀ p ∈ tl1, p.1 ≠ L + 1 + 1 + 1 + 1 := fun p hp => Nat.ne_of_gt (hl4 p hp)
  refine for_inv (LwInv k mm m (L + 1 + 1 + 1 + 1) ((L + 1 + 1 + 1, on) :: (L + 1 + 1, om) :: (L + 1, ok) :: tl1)) rfl F9 (fun p hp => N9 p (sub_four p hp)) (.tail _ (.tail _ (.tail _ (.tail _ hm1)))) rfl rfl ?_ ?_ ?_
  · intro I hI
    exact ⟨1, _, op, _, rfl, rfl, rfl, dp, hI _ (.head _), fun p hp => hI p (.tail _ hp), hok, rfl⟩
  · rintro I i v m₁ nx hh tk oI hv hcI ⟨p, tp, oP, vP, e1, e2, rfl, eP, d1, d2, hokF, hfold⟩ F₁ N₁
    obtain ⟨T1, a, b, ta, tb, kk, rfl, hpm, hT⟩ := pair_at hD1 hv
    replace d1 := ltN d1
    have d3 := ltN (d2 _ (.head _))
    have d4 := ltN (d2 _ (.tail _ (.head _)))
    have d5 := ltN (d2 _ (.tail _ (.tail _ (.head _))))
    replace F₁ : Fr h₀ L hh m₁ := F₁
    replace N₁ : News h₀ L hh _ := N₁
    have F₂ := fr_name (Str.ofString "product") F₁ e1
    have hTup : IsTup hh T1 #[.int a ta, .int b tb] := ⟨_, (N₁ _ (.tail _ (.tail _ (.tail _ (.tail _ (.tail _ hT)))))).1, rfl, kk, rfl⟩
    clear F₁ F9 N9
    rw [drop_at hpm] at hokF hfold
    simp only [okQ, Bool.and_eq_true, decide_eq_true_eq] at hokF
    obtain ⟨⟨⟨⟨⟨⟨o1, o2⟩, o3⟩, o4⟩, o5⟩, o6⟩, o7⟩ := hokF
    try k_fold
    k_steps
    rename Fr _ _ _ _ => F9
    rename News _ _ _ _ => N9
    refine lw_step F9 N9 rfl rfl e2 (by assumption) d1 d2 (.tail _ (.tail _ (.tail _ hm1))) o7 hfold
  · rintro I m₁ nx hh tk ⟨p, tp, oP, vP, e1, e2, rfl, eP, d1, d2, hokF, hfold⟩ F₁ N₁
    have hlen : vs1.length = (pfI mm).length := by rw [hD1.length, List.length_map]
    rw [hlen, List.drop_length] at hfold
    replace hfold : p = prodI mm k := hfold
    subst hfold
    exact h _ _ tp m₁ oP vP e2 e1 eP F₁ fun q hq => N₁ q (by
      simp only [List.mem_cons, List.not_mem_nil, or_false] at hq ⊢
      rcases hq with h | h | h | h <;> simp [h])
end
end Mine

-- part XL2
namespace Mine
section
open PySem PySem.W PyProof.Rows PySem.Calls PySem.Spec
theorem fresh_XL2 : True := by w_top off; k_with_none; trivial
set_option maxRecDepth 100000

theorem ne_same_int {prog : Program} {w : World} {A : Around} {E : Value → Shared → Prop} {s : Shared} {a b : Int} {t u : Tok} {Q : Value → Shared → Prop} (e : a = b) (h : Q (.bool false) s) :
    wpAny (model prog w) A (compareOp .NotEq (.int a t) (.int b u)) Q E s := PyProof.Rows.ne_int (by rw [e, bne_self_eq_false]; exact h)

local macro_rules | `(tactic| walk_at "t_go") => `(tactic| ((case k1 => k_asm); (case k2 => k_asm); (case k3 => k_asm); (case k4 => k_asm); (case k5 => k_asm); (case kK => first | exact rfl | assumption); (case kd => ktr_room); (case ku => ktr_units)))
local macro_rules | `(tactic| walk_at "t_int") => `(tactic| (walk_at "t_go"; intro _ t9 h9 tk9 F9 N9; (try dsimp only); (try k_fold)))
local macro_rules | `(tactic| walk_at "t_open") => `(tactic| (delta lawS lawE defAt; dsimp only [PySem.Challenge.pw_xm0112_01, List.drop, List.getD]; dsimp only [List.getElem?_cons_zero, List.getElem?_cons_succ, Option.getD]))
local macro_rules | `(tactic| walk_at "call ref") => `(tactic| (k_here; (with_reducible show wpAny _ _ (call (Value.ref 52) [Value.int _ _, Value.int _ _]) _ _ _); k_dflt (refine' tellI_use (pw_tell _ _ _ _ _ _ _ _ ?p1 ?p2 ?p3) ?k1 ?k2 ?k3 ?k4 ?k5 ?kK ?kd ?ku ?_; (case p1 => first | assumption | exact okP_small (by omega) (by omega)); (case p2 => omega); (case p3 => omega); walk_at "t_int")))
local macro_rules | `(tactic| walk_at "compareOp NotEq int int") => `(tactic| (k_here; (with_reducible refine ne_same_int ?he ?_); (case he => assumption)))

theorem fr_eq {m : Str → Option Value} {x : Str} {v : Value} (hv : m x = some v) : (fun y => if y = x then some v else m y) = m := by
  funext y
  by_cases hy : y = x
  · rw [if_pos hy, hy, hv]
  · rw [if_neg hy]
def bothI (mm n : Int) : List Int := List.foldl (fun l' k' => if mm.fmod k' = 0 ∧ n.fmod k' = 0 then l' ++ [k'] else if mm.fmod k' = 0 ∧ ¬n.fmod k' = 0 then l' else l') [] (rangeKs 1 (mm + 1 - 1).toNat)
theorem both_go {mm n d : Int} : ∀ (l acc : List Int), d ∈ List.foldl (fun l' k' => if mm.fmod k' = 0 ∧ n.fmod k' = 0 then l' ++ [k'] else if mm.fmod k' = 0 ∧ ¬n.fmod k' = 0 then l' else l') acc l → d ∈ acc ∨ (d ∈ l ∧ mm.fmod d = 0 ∧ n.fmod d = 0)
  | [], acc, h => .inl h
  | x :: r, acc, h => by
    rw [List.foldl_cons] at h
    rcases both_go r _ h with h1 | ⟨h1, h2⟩
    · split at h1
      · rename_i hc
        rcases List.mem_append.mp h1 with h3 | h3
        · exact .inl h3
        · rw [List.mem_singleton.mp h3]; exact .inr ⟨.head _, hc⟩
      · split at h1 <;> exact .inl h1
    · exact .inr ⟨.tail _ h1, h2⟩
theorem both_mem {mm n d : Int} (h : d ∈ bothI mm n) : 1 ≤ d ∧ d ≤ mm ∧ mm.fmod d = 0 ∧ n.fmod d = 0 := by
  rcases both_go _ _ h with h | ⟨h, h2, h3⟩
  · cases h
  · have := mem_rangeKs h
    exact ⟨this.1, by omega, h2, h3⟩
theorem dd_ne {mm n d : Int} (h : d ∈ bothI mm n) : d * d ≠ 0 := by
  have := (both_mem h).1
  have h1 := Int.mul_pos (a := d) (b := d) (by omega) (by omega)
  omega
theorem dd_small {mm n d : Int} (h : d ∈ bothI mm n) (hm1 : mm ≤ 24) : (d * d).natAbs < 1073741824 := by
  have h1 := both_mem h
  have h3 : d * d ≤ 24 * 24 := Int.mul_le_mul (by omega) (by omega) (by omega) (by omega)
  have h4 := Int.mul_nonneg (a := d) (b := d) (by omega) (by omega)
  omega
theorem div_le {n d : Int} (hn : 1 ≤ n) (hd : 1 ≤ d) (h : n.fmod d = 0) : d ≤ n := by
  rcases Int.lt_or_le n d with h1 | h1
  · rw [Int.fmod_eq_emod_of_nonneg n (by omega), Int.emod_eq_of_lt (by omega) h1] at h
    omega
  · exact h1
theorem okP_both {mm n d : Int} (h : d ∈ bothI mm n) (hm0 : 1 ≤ mm) (hm1 : mm ≤ 24) (hn0 : 1 ≤ n) (hn1 : n ≤ 24) : okP ((mm * n).fdiv (d * d)) = true := by
  obtain ⟨h1, h2, h3, h4⟩ := both_mem h
  have h5 := div_le hn0 h1 h4
  have h6 : d * d ≤ mm * n := Int.mul_le_mul h2 h5 (by omega) (by omega)
  have h7 := Int.mul_pos (a := d) (b := d) (by omega) (by omega)
  have h8 : mm * n ≤ 24 * 24 := Int.mul_le_mul hm1 hn1 (by omega) (by omega)
  have h9 : (mm * n).fdiv (d * d) = (mm * n) / (d * d) := Int.fdiv_eq_ediv_of_nonneg _ (by omega)
  rw [h9]
  apply okP_small
  · exact Int.le_ediv_of_mul_le h7 (by omega)
  · have h10 : (mm * n) / (d * d) ≤ mm * n := Int.ediv_le_self _ (by omega)
    omega
theorem pow_bits {mm n d k : Int} (h : d ∈ bothI mm n) (hm0 : 1 ≤ mm) (hm1 : mm ≤ 24) (hk0 : 0 ≤ k) (hk1 : k ≤ 2) : Builtin.Int.intBits (d ^ k.toNat) ≤ 64 := by
  have h1 := both_mem h
  have h2 : k.toNat = 0 ∨ k.toNat = 1 ∨ k.toNat = 2 := by omega
  have h3 : d * d ≤ 24 * 24 := Int.mul_le_mul (by omega) (by omega) (by omega) (by omega)
  have h4 := Int.mul_nonneg (a := d) (b := d) (by omega) (by omega)
  rcases h2 with h2 | h2 | h2
  · rw [h2, Int.pow_zero]; decide
  · rw [h2, Int.pow_succ, Int.pow_zero, Int.one_mul]; exact PySem.intBits_le_64 (by omega) (by omega)
  · rw [h2, Int.pow_succ, Int.pow_succ, Int.pow_zero, Int.one_mul]; exact PySem.intBits_le_64 (by omega) (by omega)

section
variable (w : World) (mean : ExcName → Option Value) (mg mb : Str → Option Value) {h₀ : Heap} {L fa : Addr} {cd : Value} {k mm n : Int} {s : Shared} {Q : Flow → Shared → Prop} {E : Value → Shared → Prop}
    (B : Below callerA h₀ [] h₀) (X : (hd.heap_39 w.params).In h₀) (T : Top hd.view_39 (looseW hd.view_39 []) mean mg mb h₀) {m : Str → Option Value} {op on om ok : Obj} {vp : Option Value} {tk tm tn : Tok}
    (F : Fr h₀ L s.heap m) (N : News h₀ L s.heap [(L + 1 + 1 + 1 + 1, op), (L + 1 + 1 + 1, on), (L + 1 + 1, om), (L + 1, ok)])
    (dp : op.data = .cell vp) (dn : on.data = .cell (some (.int n tn))) (dm : om.data = .cell (some (.int mm tm))) (dk : ok.data = .cell (some (.int k tk)))
include B X T F N dp dn dm dk
set_option maxHeartbeats 8000000 in
theorem st5 {t1 : Tok} {pr : Int} (hm0 : 1 ≤ mm) (hm1 : mm ≤ 24) (hk0 : 0 ≤ k) (hk1 : k ≤ 2) (hp : m (Str.ofString "product") = some (.int pr t1)) (he : pwI mm k = pr)
    (h : ∀ h' tk', Fr h₀ L h' m → News h₀ L h' [(L + 1 + 1 + 1 + 1, op), (L + 1 + 1 + 1, on), (L + 1 + 1, om), (L + 1, ok)] → Q .next { s with heap := h', toks := tk' }) :
    wpAny (model PySem.Challenge.rw_xm0112_01.row.prog w) (callerA.deeper (lawE L fa cd)) (exec (lawS 5) (lawE L fa cd)) Q E s := by
  revert X
  k_fill
  intro X
  have ef : (fun y => if y = Str.ofString "product" then some (.int pr t1) else m y) = m := by
    funext y
    by_cases hy : y = Str.ofString "product"
    · rw [if_pos hy, hy, hp]
    · rw [if_neg hy]
  rw [← ef] at F h
  walk_at "t_open"
  k_steps
  all_goals exact h _ _ (by assumption) (cb_drop (by assumption) (by kcj_all))

set_option maxHeartbeats 8000000 in
theorem st6 (hm0 : 1 ≤ mm) (hm1 : mm ≤ 24) (hn0 : 1 ≤ n) (hn1 : n ≤ 24)
    (h : ∀ h' tk' m' D ys c, m' (Str.ofString "q") = m (Str.ofString "q") → m' (Str.ofString "product") = m (Str.ofString "product") → m' (Str.ofString "both") = some (.ref D) → Fr h₀ L h' m' →
      News h₀ L h' ((D, listOf ys.toArray c) :: [(L + 1 + 1 + 1 + 1, op), (L + 1 + 1 + 1, on), (L + 1 + 1, om), (L + 1, ok)]) → IntsAre ys (bothI mm n) → Q .next { s with heap := h', toks := tk' }) :
    wpAny (model PySem.Challenge.rw_xm0112_01.row.prog w) (callerA.deeper (lawE L fa cd)) (exec (lawS 6) (lawE L fa cd)) Q E s := by
  revert X
  k_fill
  intro X
  walk_at "t_open"
  k_steps
  rename Fr _ _ _ _ => F9
  rename News _ _ _ _ => N9
  exact h _ _ _ _ _ _ (by exact rfl) (by exact rfl) (by exact rfl) F9 (cb_drop N9 (by kcj_all)) (by assumption)

local macro_rules | `(tactic| walk_at "t_d") => `(tactic| ((have hx9 := both_mem (by assumption)); omega))
local macro_rules | `(tactic| walk_at "eval ListComp") => `(tactic| (k_here; k_dflt (refine LCg.ListComp_U (F₀ := by k_asm) (by with_unfolding_all rfl) (by decide) (by rfl) (by decide) (by rfl) ?_)))
local macro_rules | `(tactic| walk_at "binaryOp FloorDiv int int") => `(tactic| (k_here; (refine PyProof.Rows.floordiv_int ?hb ?_ ?hp); (case hb => exact dd_ne (by assumption)); (case hp => exact Or.inl (PyProof.noPylong_small (dd_small (by assumption) (by omega))))))
local macro_rules | `(tactic| walk_at "binaryOp Pow int int") => `(tactic| (k_here; (with_reducible refine pow_int_small ?kb1 ?kb2 ?kb3 ?_); (case kb1 => omega); (case kb2 => omega); (case kb3 => walk_at "t_d")))
local macro_rules | `(tactic| walk_at "binaryOp Mult int int") => `(tactic| (k_here; (with_reducible refine PyProof.Rows.mul_int ?_ ?hm); (case hm => first | exact PySem.IntMulOk.of_left (PySem.intBits_le_64 (by omega) (by omega)) | exact PySem.IntMulOk.of_left (PySem.intBits_le_64 (by walk_at "t_d") (by walk_at "t_d")) | exact PySem.IntMulOk.of_left (pow_bits (by assumption) (by omega) (by omega) (by omega) (by omega)))))
local macro_rules | `(tactic| walk_at "call ref") => `(tactic| (k_here; (with_reducible show wpAny _ _ (call (Value.ref 52) [Value.int (Int.fdiv _ _) _, Value.int _ _]) _ _ _); k_dflt (refine' tellI_use (pw_tell _ _ _ _ _ _ _ _ ?p1 ?p2 ?p3) ?k1 ?k2 ?k3 ?k4 ?k5 ?kK ?kd ?ku ?_; (case p1 => exact okP_both (by assumption) (by omega) (by omega) (by omega) (by omega)); (case p2 => omega); (case p3 => omega); walk_at "t_int")))

set_option maxHeartbeats 8000000 in
omit N in
theorem st7 {t1 : Tok} {pr : Int} {D : Addr} {ys : List Value} {c : Nat} (hm0 : 1 ≤ mm) (hm1 : mm ≤ 24) (hn0 : 1 ≤ n) (hn1 : n ≤ 24) (hk0 : 0 ≤ k) (hk1 : k ≤ 2) (hp : m (Str.ofString "product") = some (.int pr t1)) (hbo : m (Str.ofString "both") = some (.ref D))
    (N : News h₀ L s.heap ((D, listOf ys.toArray c) :: [(L + 1 + 1 + 1 + 1, op), (L + 1 + 1 + 1, on), (L + 1 + 1, om), (L + 1, ok)])) (hI : IntsAre ys (bothI mm n)) (hlen : (bothI mm n).length ≤ 24)
    (hpr0 : 0 ≤ pr) (hpr1 : pr < 2 ^ 60) (he : pr * pwI n k = (List.map (fun d => d ^ k.toNat * pwI ((mm * n).fdiv (d * d)) k) (bothI mm n)).sum)
    (h : ∀ h' tk', Fr h₀ L h' m → News h₀ L h' [(L + 1 + 1 + 1 + 1, op), (L + 1 + 1 + 1, on), (L + 1 + 1, om), (L + 1, ok)] → Q .next { s with heap := h', toks := tk' }) :
    wpAny (model PySem.Challenge.rw_xm0112_01.row.prog w) (callerA.deeper (lawE L fa cd)) (exec (lawS 7) (lawE L fa cd)) Q E s := by
  revert X
  k_fill
  intro X
  rw [← fr_eq hp] at F h
  rw [← fr_eq (m := fun y => if y = Str.ofString "product" then some (.int pr t1) else m y) (x := Str.ofString "both") ((if_neg (by decide)).trans hbo)] at F h
  walk_at "t_open"
  k_steps
  all_goals exact h _ _ (by assumption) (cb_drop (by assumption) (by kcj_all))
end
end
end Mine

-- part XL3
namespace Mine
section
open PySem PySem.W PyProof.Rows PySem.Calls PySem.Spec
theorem fresh_XL3 : True := by w_top off; k_with_none; trivial
set_option maxRecDepth 100000

theorem ds_mem_tab : ((List.range 24).all fun i => (fun m => (dsI m).all fun d => decide (1 ≤ d) && decide (d ≤ 24)) ((i : Int) + 1)) = true := by decide +kernel
theorem ds_mem {n d : Int} (h : d ∈ dsI n) (h0 : 1 ≤ n) (h1 : n ≤ 24) : 1 ≤ d ∧ d ≤ 24 := by
  have h2 := tab_of (P := fun x => (fun m => (dsI m).all fun d => decide (1 ≤ d) && decide (d ≤ 24)) (x + 1)) ds_mem_tab (x := n - 1) (by omega) (by omega)
  rw [show n - 1 + 1 = n by omega] at h2
  have h3 := List.all_eq_true.mp h2 d h
  simp only [Bool.and_eq_true, decide_eq_true_eq] at h3
  exact h3
def countsI (n : Int) : List Int := List.map (fun d => pwI d 0) (dsI n)
theorem cnt_mem_tab : ((List.range 24).all fun i => (fun m => ((countsI m).all fun d => decide (0 ≤ d) && decide (d ≤ 24)) && decide ((countsI m).length ≤ 24) && decide (0 ≤ (countsI m).sum) && decide ((countsI m).sum ≤ 1000)) ((i : Int) + 1)) = true := by decide +kernel
theorem cnt_all {n : Int} (h0 : 1 ≤ n) (h1 : n ≤ 24) : (∀ d ∈ countsI n, 0 ≤ d ∧ d ≤ 24) ∧ (countsI n).length ≤ 24 ∧ 0 ≤ (countsI n).sum ∧ (countsI n).sum ≤ 1000 := by
  have h2 := tab_of (P := fun x => (fun m => ((countsI m).all fun d => decide (0 ≤ d) && decide (d ≤ 24)) && decide ((countsI m).length ≤ 24) && decide (0 ≤ (countsI m).sum) && decide ((countsI m).sum ≤ 1000)) (x + 1)) cnt_mem_tab (x := n - 1) (by omega) (by omega)
  rw [show n - 1 + 1 = n by omega] at h2
  simp only [Bool.and_eq_true, decide_eq_true_eq, List.all_eq_true] at h2
  exact ⟨h2.1.1.1, h2.1.1.2, h2.1.2, h2.2⟩
theorem ne_same_bool {prog : Program} {w : World} {A : Around} {E : Value → Shared → Prop} {s : Shared} {a b : Bool} {Q : Value → Shared → Prop} (e : a = b) (h : Q (.bool false) s) :
    wpAny (model prog w) A (compareOp .NotEq (.bool a) (.bool b)) Q E s := PyProof.Rows.ne_bool (by rw [e, bne_self_eq_false]; exact h)
theorem pow_bits2 {d k : Int} (h0 : 1 ≤ d) (h1 : d ≤ 24) (hk0 : 0 ≤ k) (hk1 : k ≤ 2) : Builtin.Int.intBits (d ^ k.toNat) ≤ 64 := by
  have h2 : k.toNat = 0 ∨ k.toNat = 1 ∨ k.toNat = 2 := by omega
  have h3 : d * d ≤ 24 * 24 := Int.mul_le_mul (by omega) (by omega) (by omega) (by omega)
  have h4 := Int.mul_nonneg (a := d) (b := d) (by omega) (by omega)
  rcases h2 with h2 | h2 | h2
  · rw [h2, Int.pow_zero]; decide
  · rw [h2, Int.pow_succ, Int.pow_zero, Int.one_mul]; exact PySem.intBits_le_64 (by omega) (by omega)
  · rw [h2, Int.pow_succ, Int.pow_succ, Int.pow_zero, Int.one_mul]; exact PySem.intBits_le_64 (by omega) (by omega)

local macro_rules | `(tactic| walk_at "t_go") => `(tactic| ((case k1 => k_asm); (case k2 => k_asm); (case k3 => k_asm); (case k4 => k_asm); (case k5 => k_asm); (case kK => first | exact rfl | assumption); (case kd => ktr_room); (case ku => ktr_units)))
local macro_rules | `(tactic| walk_at "t_int") => `(tactic| (walk_at "t_go"; intro _ t9 h9 tk9 F9 N9; (try dsimp only); (try k_fold)))
local macro_rules | `(tactic| walk_at "t_open") => `(tactic| (delta lawS lawE defAt; dsimp only [PySem.Challenge.pw_xm0112_01, List.drop, List.getD]; dsimp only [List.getElem?_cons_zero, List.getElem?_cons_succ, Option.getD]))
local macro_rules | `(tactic| walk_at "t_ds") => `(tactic| ((obtain ⟨hx8, hx9⟩ := ds_mem (by assumption) (by assumption) (by assumption)); omega))
local macro_rules | `(tactic| walk_at "call ref") => `(tactic| (k_here; (with_reducible show wpAny _ _ (call (Value.ref 52) [Value.int _ _, Value.int _ _]) _ _ _); k_dflt (refine' tellI_use (pw_tell _ _ _ _ _ _ _ _ ?p1 ?p2 ?p3) ?k1 ?k2 ?k3 ?k4 ?k5 ?kK ?kd ?ku ?_; (case p1 => first | assumption | exact okP_small (by omega) (by omega) | exact okP_small (by walk_at "t_ds") (by walk_at "t_ds")); (case p2 => omega); (case p3 => omega); walk_at "t_int")))
local macro_rules | `(tactic| walk_at "call ref") => `(tactic| (k_here; (with_reducible show wpAny _ _ (call (Value.ref 40) [Value.int _ _]) _ _ _); k_dflt (refine' tellR_use (dv_tell _ _ _ _ _ _ ?p1 ?p2 ?p3) ?k1 ?k2 ?k3 ?k4 ?k5 ?kK ?kd ?ku ?_; (case p1 => omega); (case p2 => omega); (case p3 => exact okD_small (by omega) (by omega)); walk_at "t_go"; intro r9 tl9 h9 tk9 F9 N9 lo9 hR9; obtain ⟨a9, vs9, c9, e9, et9, hI9⟩ := hR9; subst e9; subst et9; (try simp only [List.cons_append, List.nil_append] at N9); (try dsimp only); (try k_fold))))
local macro_rules | `(tactic| walk_at "compareOp NotEq int int") => `(tactic| (k_here; (with_reducible refine ne_same_int ?he ?_); (case he => assumption)))
local macro_rules | `(tactic| walk_at "binaryOp FloorDiv int int") => `(tactic| (k_here; (refine PyProof.Rows.floordiv_int ?hb ?_ ?hp); (case hb => omega); (case hp => exact Or.inl (PyProof.noPylong_small (by omega)))))
local macro_rules | `(tactic| walk_at "binaryOp Pow int int") => `(tactic| (k_here; (with_reducible refine pow_int_small ?kb1 ?kb2 ?kb3 ?_); (case kb1 => omega); (case kb2 => omega); (case kb3 => first | omega | ((obtain ⟨hx8, hx9⟩ := (‹∀ d ∈ countsI _, 0 ≤ d ∧ d ≤ 24›) _ (by assumption)); omega))))
local macro_rules | `(tactic| walk_at "binaryOp Mult int int") => `(tactic| (k_here; (with_reducible refine PyProof.Rows.mul_int ?_ ?hm); (case hm => first | exact PySem.IntMulOk.of_left (PySem.intBits_le_64 (by omega) (by omega)) | exact PySem.IntMulOk.of_right (PySem.intBits_le_64 (by omega) (by omega)) | exact PySem.IntMulOk.of_left (pow_bits2 (by omega) (by omega) (by omega) (by omega)))))

section
variable (w : World) (mean : ExcName → Option Value) (mg mb : Str → Option Value) {h₀ : Heap} {L fa : Addr} {cd : Value} {k mm n : Int} {s : Shared} {Q : Flow → Shared → Prop} {E : Value → Shared → Prop}
    (B : Below callerA h₀ [] h₀) (X : (hd.heap_39 w.params).In h₀) (T : Top hd.view_39 (looseW hd.view_39 []) mean mg mb h₀) {m : Str → Option Value} {op on om ok : Obj} {vp : Option Value} {tk tm tn : Tok}
    (F : Fr h₀ L s.heap m) (N : News h₀ L s.heap [(L + 1 + 1 + 1 + 1, op), (L + 1 + 1 + 1, on), (L + 1 + 1, om), (L + 1, ok)])
    (dp : op.data = .cell vp) (dn : on.data = .cell (some (.int n tn))) (dm : om.data = .cell (some (.int mm tm))) (dk : ok.data = .cell (some (.int k tk)))
include B X T F N dp dn dm dk
set_option maxHeartbeats 8000000 in
theorem st8 (hn0 : 1 ≤ n) (hn1 : n ≤ 24) (hk0 : 0 ≤ k) (hk1 : k ≤ 2)
    (he : (List.map (fun one => pwI one k) (rangeKs 1 (n + 1 - 1).toNat)).sum = (List.map (fun d => d ^ k.toNat * n.fdiv d) (rangeKs 1 (n + 1 - 1).toNat)).sum)
    (h : ∀ h' tk', Fr h₀ L h' m → News h₀ L h' [(L + 1 + 1 + 1 + 1, op), (L + 1 + 1 + 1, on), (L + 1 + 1, om), (L + 1, ok)] → Q .next { s with heap := h', toks := tk' }) :
    wpAny (model PySem.Challenge.rw_xm0112_01.row.prog w) (callerA.deeper (lawE L fa cd)) (exec (lawS 8) (lawE L fa cd)) Q E s := by
  revert X
  k_fill
  intro X
  walk_at "t_open"
  k_steps
  all_goals exact h _ _ (by assumption) (cb_drop (by assumption) (by kcj_all))

local macro_rules | `(tactic| walk_at "exec Assign cons ListComp") => `(tactic| (k_here; k_dflt (refine LCg.Assign_ListComp_U (F₀ := by k_asm) (by rfl) (by with_unfolding_all rfl) (by with_unfolding_all rfl) (by decide) (by rfl) (by decide) (by rfl) (by rfl) (by rfl) ?_)))
set_option maxHeartbeats 8000000 in
theorem st9 (hn0 : 1 ≤ n) (hn1 : n ≤ 24) (hlen : (dsI n).length < 64)
    (h : ∀ h' tk' m' D ys c, m' (Str.ofString "q") = m (Str.ofString "q") → m' (Str.ofString "counts") = some (.ref D) → Fr h₀ L h' m' →
      News h₀ L h' ((D, listOf ys.toArray c) :: [(L + 1 + 1 + 1 + 1, op), (L + 1 + 1 + 1, on), (L + 1 + 1, om), (L + 1, ok)]) → IntsAre ys (countsI n) → Q .next { s with heap := h', toks := tk' }) :
    wpAny (model PySem.Challenge.rw_xm0112_01.row.prog w) (callerA.deeper (lawE L fa cd)) (exec (lawS 9) (lawE L fa cd)) Q E s := by
  revert X
  k_fill
  intro X
  walk_at "t_open"
  k_steps
  rename Fr _ _ _ _ => F9
  rename News _ _ _ _ => N9
  exact h _ _ _ _ _ _ (by exact rfl) (by exact rfl) F9 (cb_drop N9 (by kcj_all)) (by assumption)

local macro_rules | `(tactic| walk_at "eval ListComp") => `(tactic| (k_here; k_dflt (refine LCg.ListComp_U (F₀ := by k_asm) (by with_unfolding_all rfl) (by decide) (by rfl) (by decide) (by rfl) ?_)))
set_option maxHeartbeats 8000000 in
omit N in
theorem st10 {D : Addr} {ys : List Value} {c : Nat} (hn0 : 1 ≤ n) (hn1 : n ≤ 24) (hco : m (Str.ofString "counts") = some (.ref D))
    (N : News h₀ L s.heap ((D, listOf ys.toArray c) :: [(L + 1 + 1 + 1 + 1, op), (L + 1 + 1 + 1, on), (L + 1 + 1, om), (L + 1, ok)])) (hI : IntsAre ys (countsI n))
    (he : (List.map (fun one => one ^ Int.toNat 3) (countsI n)).sum = (countsI n).sum ^ Int.toNat 2)
    (h : ∀ h' tk', Fr h₀ L h' m → News h₀ L h' [(L + 1 + 1 + 1 + 1, op), (L + 1 + 1 + 1, on), (L + 1 + 1, om), (L + 1, ok)] → Q .next { s with heap := h', toks := tk' }) :
    wpAny (model PySem.Challenge.rw_xm0112_01.row.prog w) (callerA.deeper (lawE L fa cd)) (exec (lawS 10) (lawE L fa cd)) Q E s := by
  revert X
  k_fill
  intro X
  rw [← fr_eq hco] at F h
  obtain ⟨hc1, hc2, hc3, hc4⟩ := cnt_all hn0 hn1
  walk_at "t_open"
  k_steps
  all_goals exact h _ _ (by assumption) (cb_drop (by assumption) (by kcj_all))

local macro_rules | `(tactic| walk_at "compareOp NotEq bool bool") => `(tactic| (k_here; (with_reducible refine ne_same_bool ?he ?_); (case he => assumption)))
set_option maxHeartbeats 8000000 in
theorem st11 (hn0 : 1 ≤ n) (hn1 : n ≤ 24) (hm0 : 1 ≤ mm) (hm1 : mm ≤ 24) (hmn : okP (mm * n) = true) (he : decide (pwI n 1 * mm * n < pwI (mm * n) 1 * n) = decide (1 < mm))
    (h : ∀ h' tk', Fr h₀ L h' m → News h₀ L h' [(L + 1 + 1 + 1 + 1, op), (L + 1 + 1 + 1, on), (L + 1 + 1, om), (L + 1, ok)] → Q .next { s with heap := h', toks := tk' }) :
    wpAny (model PySem.Challenge.rw_xm0112_01.row.prog w) (callerA.deeper (lawE L fa cd)) (exec (lawS 11) (lawE L fa cd)) Q E s := by
  revert X
  k_fill
  intro X
  walk_at "t_open"
  k_steps
  all_goals exact h _ _ (by assumption) (cb_drop (by assumption) (by kcj_all))

def halfQ (q : Int) : Int := 2 ^ (q - 1).toNat * (2 ^ q.toNat - 1)
local macro_rules | `(tactic| walk_at "binaryOp Pow int int") => `(tactic| (k_here; (with_reducible refine pow_int_small ?kb1 ?kb2 ?kb3 ?_); (case kb1 => omega); (case kb2 => omega); (case kb3 => decide)))
local macro_rules | `(tactic| walk_at "call ref") => `(tactic| (k_here; (with_reducible show wpAny _ _ (call (Value.ref 66) [Value.int _ _]) _ _ _); k_dflt (refine' tellI_use (al_tell _ _ _ _ _ _ ?p1 ?p2) ?k1 ?k2 ?k3 ?k4 ?k5 ?kK ?kd ?ku ?_; (case p1 => omega); (case p2 => omega); walk_at "t_int")))
local macro_rules | `(tactic| walk_at "call ref") => `(tactic| (k_here; (with_reducible show wpAny _ _ (call (Value.ref 73) [Value.int _ _]) _ _ _); k_dflt (refine' tellI_use (th_tell _ _ _ _ _ _ ?p1 ?p2 ?p3 ?p4 ?p5 ?p6) ?k1 ?k2 ?k3 ?k4 ?k5 ?kK ?kd ?ku ?_; (case p1 => assumption); (case p2 => assumption); (case p3 => assumption); (case p4 => assumption); (case p5 => assumption); (case p6 => assumption); walk_at "t_int")))
set_option maxHeartbeats 8000000 in
theorem st12 {q : Int} {tq : Tok} (hq : m (Str.ofString "q") = some (.int q tq)) (h0 : 2 ≤ q) (h1 : q ≤ 7) (hb : 0 ≤ (2 : Int) ^ (q - 1).toNat ∧ (2 : Int) ^ (q - 1).toNat ≤ 1000)
    (h : ∀ h' tk' m' t, m' (Str.ofString "q") = m (Str.ofString "q") → m' (Str.ofString "half") = some (.int (halfQ q) t) → Fr h₀ L h' m' → News h₀ L h' [(L + 1 + 1 + 1 + 1, op), (L + 1 + 1 + 1, on), (L + 1 + 1, om), (L + 1, ok)] → Q .next { s with heap := h', toks := tk' }) :
    wpAny (model PySem.Challenge.rw_xm0112_01.row.prog w) (callerA.deeper (lawE L fa cd)) (exec (lawS 12) (lawE L fa cd)) Q E s := by
  revert X
  k_fill
  intro X
  rw [← fr_eq hq] at F h
  walk_at "t_open"
  k_steps
  rename Fr _ _ _ _ => F9
  exact h _ _ _ _ (by exact rfl) (by exact rfl) F9 (cb_drop (by assumption) (by kcj_all))

set_option maxHeartbeats 8000000 in
theorem st13 {q : Int} {tq th : Tok} (hq : m (Str.ofString "q") = some (.int q tq)) (hh : m (Str.ofString "half") = some (.int (halfQ q) th)) (h0 : 2 ≤ q) (h1 : q ≤ 7) (hok : okP (halfQ q) = true) (hb : 1 ≤ (2 : Int) ^ q.toNat - 1 ∧ (2 : Int) ^ q.toNat - 1 < 2 ^ 40)
    (he : (pwI (halfQ q) 1 == 2 * halfQ q) = aloneI (2 ^ q.toNat - 1))
    (h : ∀ h' tk', Fr h₀ L h' m → News h₀ L h' [(L + 1 + 1 + 1 + 1, op), (L + 1 + 1 + 1, on), (L + 1 + 1, om), (L + 1, ok)] → Q .next { s with heap := h', toks := tk' }) :
    wpAny (model PySem.Challenge.rw_xm0112_01.row.prog w) (callerA.deeper (lawE L fa cd)) (exec (lawS 13) (lawE L fa cd)) Q E s := by
  revert X
  k_fill
  intro X
  rw [← fr_eq hq] at F h
  rw [← fr_eq (m := fun y => if y = Str.ofString "q" then some (.int q tq) else m y) (x := Str.ofString "half") ((if_neg (by decide)).trans hh)] at F h
  walk_at "t_open"
  k_steps
  all_goals exact h _ _ (by assumption) (cb_drop (by assumption) (by kcj_all))

set_option maxHeartbeats 8000000 in
theorem st14 {q : Int} {tq : Tok} (hq : m (Str.ofString "q") = some (.int q tq)) (h0 : 2 ≤ q) (h1 : q ≤ 7) (hA : thA q = true) (hB : thB q = true) (hC : thC q = true) (hD : thD q = true)
    (h : ∀ h' tk', Fr h₀ L h' m → News h₀ L h' [(L + 1 + 1 + 1 + 1, op), (L + 1 + 1 + 1, on), (L + 1 + 1, om), (L + 1, ok)] → Q (.ret (.bool true)) { s with heap := h', toks := tk' }) :
    wpAny (model PySem.Challenge.rw_xm0112_01.row.prog w) (callerA.deeper (lawE L fa cd)) (exec (lawS 14) (lawE L fa cd)) Q E s := by
  revert X
  k_fill
  intro X
  rw [← fr_eq hq] at F h
  walk_at "t_open"
  k_steps
  all_goals exact h _ _ (by assumption) (cb_drop (by assumption) (by kcj_all))
end
end
end Mine

-- part XL4
namespace Mine
section
open PySem PySem.W PyProof.Rows PySem.Calls PySem.Spec
theorem fresh_XL4 : True := by w_top off; k_with_none; trivial
set_option maxRecDepth 100000

theorem dr_use {w : World} {mean : ExcName → Option Value} {mg mb : Str → Option Value} {P S : Addr} {c c' : Nat} {vs : List Value} {ns : List Int} {spot many : Int} {t t1 : Tok}
    {dp un : Nat} {gd : Option (List Code)} {cn : Str} {cs : Scope} {a : Addr} {ccd : Value} {cl : List (Str × Addr)} {outer : List Env} {A₀ : Around} {base h₀ : Heap} {L : Addr} {m : Str → Option Value} {news : List (Addr × Obj)} {s : Shared} {Q E : Value → Shared → Prop}
    (B : Below A₀ base outer h₀) (F : Fr h₀ L s.heap m) (X : (hd.heap_39 w.params).In h₀) (N : News h₀ L s.heap ((P, listOf #[.ref S, .int spot t] c) :: (S, listOf vs.toArray c') :: news)) (T : Top hd.view_39 (looseW hd.view_39 []) mean mg mb h₀) (hk : cs.kind = .function)
    (hI : IntsAre vs ns) (hlen : ns.length ≤ 4) (hSP : S < P) (hoff : ∀ p ∈ news, p.1 ≠ P) (hs0 : 0 ≤ spot) (hs1 : spot ≤ 3) (hm0 : 1 ≤ many) (hm1 : many < 1000) (hd : dp + 5 < recursionLimit) (hu : un + 8 * 20 < cLine)
    (ret : ∀ (v : Int) (t2 t3 : Tok) (h' : Heap) (tk' : Nat), 0 ≤ v → v < many → Fr h₀ L h' m → News h₀ L h' ((P, listOf #[.ref S, .int (spot + 1) t2] c) :: (S, listOf vs.toArray c') :: news) → Q (.int v t3) { s with heap := h', toks := tk' }) :
    wpAny (model PySem.Challenge.rw_xm0112_01.row.prog w) (ktrTop dp un gd cn cs L a ccd cl outer) (call (.ref 47) [.ref P, .int many t1]) Q E s :=
  dr_tell w mean mg mb P S c c' vs ns spot many t t1 dp un gd cn cs a ccd cl outer A₀ base h₀ L m news s Q E B F X N T hk hI hlen hSP hoff hs0 hs1 hm0 hm1 hd hu ret

local macro_rules | `(tactic| walk_at "t_go") => `(tactic| ((case k1 => k_asm); (case k2 => k_asm); (case k3 => k_asm); (case k4 => k_asm); (case k5 => k_asm); (case kK => first | exact rfl | assumption); (case kd => ktr_room); (case ku => ktr_units)))
local macro_rules | `(tactic| walk_at "t_open") => `(tactic| (delta lawS lawE defAt; dsimp only [PySem.Challenge.pw_xm0112_01, List.drop, List.getD]; dsimp only [List.getElem?_cons_zero, List.getElem?_cons_succ, Option.getD]))
local macro_rules | `(tactic| walk_at "call ref") => `(tactic| (k_here; (with_reducible show wpAny _ _ (call (Value.ref 47) [Value.ref _, Value.int _ _]) _ _ _); k_dflt (refine' dr_use ?k1 ?k2 ?k3 ?k4 ?k5 ?kK ?p1 ?p2 ?p3 ?p4 ?p5 ?p6 ?p7 ?p8 ?kd ?ku ?_; walk_at "t_go"; (case p1 => assumption); (case p2 => assumption); (case p3 => assumption); (case p4 => assumption); (case p5 => omega); (case p6 => omega); (case p7 => omega); (case p8 => omega); intro v9 t8 t9 h9 tk9 hv9 hw9 F9 N9; (try dsimp only); (try k_fold))))

section
variable (w : World) (mean : ExcName → Option Value) (mg mb : Str → Option Value) {h₀ : Heap} {L fa : Addr} {cd : Value} {s : Shared} {Q : Flow → Shared → Prop} {E : Value → Shared → Prop}
    (B : Below callerA h₀ [] h₀) (X : (hd.heap_39 w.params).In h₀) (T : Top hd.view_39 (looseW hd.view_39 []) mean mg mb h₀) {m : Str → Option Value} {op on om ok : Obj} {vp vn vm vk : Option Value}
    (F : Fr h₀ L s.heap m)
    (dp : op.data = .cell vp) (dn : on.data = .cell vn) (dm : om.data = .cell vm) (dk : ok.data = .cell vk)
include B X T F dp dn dm dk
set_option maxHeartbeats 8000000 in
theorem st1 {P S : Addr} {c c' : Nat} {ys : List Value} {ns : List Int} {t : Tok} (hpool : m (Str.ofString "pool") = some (.ref P))
    (N : News h₀ L s.heap ((P, listOf #[.ref S, .int 0 t] c) :: (S, listOf ys.toArray c') :: [(L + 1 + 1 + 1 + 1, op), (L + 1 + 1 + 1, on), (L + 1 + 1, om), (L + 1, ok)])) (hI : IntsAre ys ns) (hlen : ns.length ≤ 4) (hSP : S < P)
    (hoff : ∀ p ∈ [(L + 1 + 1 + 1 + 1, op), (L + 1 + 1 + 1, on), (L + 1 + 1, om), (L + 1, ok)], p.1 ≠ P) (hS : (L + 1 + 1 + 1 + 1 ≠ S ∧ L + 1 + 1 + 1 ≠ S) ∧ (L + 1 + 1 ≠ S ∧ L + 1 ≠ S)) (hP : L + 1 + 1 + 1 + 1 < P)
    (h : ∀ h' tk' m' v0 v1 v2 v3 on' om' ok' tn tm tk tq, m' (Str.ofString "q") = some (.int (2 + v3) tq) → on'.data = .cell (some (.int (1 + v2) tn)) → om'.data = .cell (some (.int (1 + v1) tm)) → ok'.data = .cell (some (.int v0 tk)) →
      0 ≤ v0 → v0 < 3 → 0 ≤ v1 → v1 < 24 → 0 ≤ v2 → v2 < 24 → 0 ≤ v3 → v3 < 6 → Fr h₀ L h' m' → News h₀ L h' [(L + 1 + 1 + 1 + 1, op), (L + 1 + 1 + 1, on'), (L + 1 + 1, om'), (L + 1, ok')] → Q .next { s with heap := h', toks := tk' }) :
    wpAny (model PySem.Challenge.rw_xm0112_01.row.prog w) (callerA.deeper (lawE L fa cd)) (exec (lawS 1) (lawE L fa cd)) Q E s := by
  revert X
  k_fill
  intro X
  obtain ⟨⟨hS1, hS2⟩, hS3, hS4⟩ := hS
  replace hS1 := neN hS1
  replace hS2 := neN hS2
  replace hS3 := neN hS3
  replace hS4 := neN hS4
  replace hP := ltN hP
  rw [← fr_eq hpool] at F
  walk_at "t_open"
  k_steps
  rename_i ok1 dk1 _ om1 dm1 _ on1 dn1 _ F9 N9
  exact h _ _ _ _ _ _ _ on1 om1 ok1 _ _ _ _ (by exact rfl) dn1 dm1 dk1 (by assumption) (by assumption) (by assumption) (by assumption) (by assumption) (by assumption) (by assumption) (by assumption) F9 (cb_drop N9 (by kcj_all))

omit dp dn dm dk
set_option maxHeartbeats 8000000 in
theorem st0 {l : Addr} {vs : List Value} {ns : List Int} (hscr : m (Str.ofString "script") = some (.ref l)) (hl : h₀.IsList l vs.toArray) (hI : IntsAre vs ns) (hlen : ns.length ≤ 63)
    (N : News h₀ L s.heap [(L + 1 + 1 + 1 + 1, op), (L + 1 + 1 + 1, on), (L + 1 + 1, om), (L + 1, ok)])
    (h : ∀ h' tk' m' P S c c' ys t, m' (Str.ofString "pool") = some (.ref P) → IntsAre ys ((ns.take 4).map fun x => x) → S < P → ((L + 1 + 1 + 1 + 1 ≠ S ∧ L + 1 + 1 + 1 ≠ S) ∧ (L + 1 + 1 ≠ S ∧ L + 1 ≠ S)) → L + 1 + 1 + 1 + 1 < P → Fr h₀ L h' m' →
      News h₀ L h' ((P, listOf #[.ref S, .int 0 t] c) :: (S, listOf ys.toArray c') :: [(L + 1 + 1 + 1 + 1, op), (L + 1 + 1 + 1, on), (L + 1 + 1, om), (L + 1, ok)]) → Q .next { s with heap := h', toks := tk' }) :
    wpAny (model PySem.Challenge.rw_xm0112_01.row.prog w) (callerA.deeper (lawE L fa cd)) (exec (lawS 0) (lawE L fa cd)) Q E s := by
  revert X
  k_fill
  intro X
  rw [← fr_eq hscr] at F
  walk_at "t_open"
  k_steps
  rename_i D2 _ _ n1 P9 _ l9 _ F9 N9
  exact h _ _ _ P9 D2 _ _ ys _ (by exact rfl) (by assumption) l9.1 ⟨⟨n1.2.1, n1.2.2.1⟩, n1.2.2.2.1, n1.2.2.2.2⟩ l9.2.2.1 F9 (cb_drop N9 (by kcj_all))
end
end
end Mine

-- part XN3
namespace Mine
section
open PySem PySem.W
set_option maxRecDepth 100000

theorem tab2_of {P : Int → Int → Bool} {A B : Nat} (h : ((List.range A).all fun i => (List.range B).all fun j => P (i : Int) (j : Int)) = true) {x y : Int} (h0 : 0 ≤ x) (h1 : x < A) (h2 : 0 ≤ y) (h3 : y < B) : P x y = true :=
  tab_of (P := P x) (tab_of (P := fun x => (List.range B).all fun j => P x (j : Int)) h h0 h1) h2 h3
def t1B (m k : Int) : Bool := decide (pwI m k = prodI m k) && okQ k (pfI m) 1 && decide (0 ≤ prodI m k) && decide (prodI m k < 2 ^ 60)
def t2B (m n k : Int) : Bool := decide (prodI m k * pwI n k = (List.map (fun d => d ^ k.toNat * pwI ((m * n).fdiv (d * d)) k) (bothI m n)).sum)
def t3B (n k : Int) : Bool := decide ((List.map (fun one => pwI one k) (rangeKs 1 (n + 1 - 1).toNat)).sum = (List.map (fun d => d ^ k.toNat * n.fdiv d) (rangeKs 1 (n + 1 - 1).toNat)).sum)
def t4B (n : Int) : Bool := decide ((List.map (fun one => one ^ Int.toNat 3) (countsI n)).sum = (countsI n).sum ^ Int.toNat 2)
def t5B (m n : Int) : Bool := decide (decide (pwI n 1 * m * n < pwI (m * n) 1 * n) = decide (1 < m)) && decide ((bothI m n).length ≤ 24)
def t6B (q : Int) : Bool := thA q && thB q && thC q && thD q && decide (0 ≤ (2 : Int) ^ (q - 1).toNat) && decide ((2 : Int) ^ (q - 1).toNat ≤ 1000) && okP (halfQ q) && decide (1 ≤ (2 : Int) ^ q.toNat - 1) && decide ((2 : Int) ^ q.toNat - 1 < 2 ^ 40) && ((pwI (halfQ q) 1 == 2 * halfQ q) == aloneI (2 ^ q.toNat - 1))
theorem t1_tab : ((List.range 24).all fun i => (List.range 3).all fun k => (fun a b => t1B (a + 1) b) (i : Int) (k : Int)) = true := by decide +kernel
theorem t3_tab : ((List.range 24).all fun i => (List.range 3).all fun k => (fun a b => t3B (a + 1) b) (i : Int) (k : Int)) = true := by decide +kernel
theorem t4_tab : ((List.range 24).all fun i => (fun a => t4B (a + 1)) (i : Int)) = true := by decide +kernel
theorem t6_tab : ((List.range 6).all fun i => (fun a => t6B (2 + a)) (i : Int)) = true := by decide +kernel
theorem t2_1 : ((List.range 24).all fun i => (List.range 3).all fun k => (fun a b => t2B 1 (a + 1) b) (i : Int) (k : Int)) = true := by decide +kernel
theorem t2_2 : ((List.range 24).all fun i => (List.range 3).all fun k => (fun a b => t2B 2 (a + 1) b) (i : Int) (k : Int)) = true := by decide +kernel
theorem t2_3 : ((List.range 24).all fun i => (List.range 3).all fun k => (fun a b => t2B 3 (a + 1) b) (i : Int) (k : Int)) = true := by decide +kernel
theorem t2_4 : ((List.range 24).all fun i => (List.range 3).all fun k => (fun a b => t2B 4 (a + 1) b) (i : Int) (k : Int)) = true := by decide +kernel
theorem t2_5 : ((List.range 24).all fun i => (List.range 3).all fun k => (fun a b => t2B 5 (a + 1) b) (i : Int) (k : Int)) = true := by decide +kernel
theorem t2_6 : ((List.range 24).all fun i => (List.range 3).all fun k => (fun a b => t2B 6 (a + 1) b) (i : Int) (k : Int)) = true := by decide +kernel
theorem t2_7 : ((List.range 24).all fun i => (List.range 3).all fun k => (fun a b => t2B 7 (a + 1) b) (i : Int) (k : Int)) = true := by decide +kernel
theorem t2_8 : ((List.range 24).all fun i => (List.range 3).all fun k => (fun a b => t2B 8 (a + 1) b) (i : Int) (k : Int)) = true := by decide +kernel
theorem t2_9 : ((List.range 24).all fun i => (List.range 3).all fun k => (fun a b => t2B 9 (a + 1) b) (i : Int) (k : Int)) = true := by decide +kernel
theorem t2_10 : ((List.range 24).all fun i => (List.range 3).all fun k => (fun a b => t2B 10 (a + 1) b) (i : Int) (k : Int)) = true := by decide +kernel
theorem t2_11 : ((List.range 24).all fun i => (List.range 3).all fun k => (fun a b => t2B 11 (a + 1) b) (i : Int) (k : Int)) = true := by decide +kernel
theorem t2_12 : ((List.range 24).all fun i => (List.range 3).all fun k => (fun a b => t2B 12 (a + 1) b) (i : Int) (k : Int)) = true := by decide +kernel
theorem t2_13 : ((List.range 24).all fun i => (List.range 3).all fun k => (fun a b => t2B 13 (a + 1) b) (i : Int) (k : Int)) = true := by decide +kernel
theorem t2_14 : ((List.range 24).all fun i => (List.range 3).all fun k => (fun a b => t2B 14 (a + 1) b) (i : Int) (k : Int)) = true := by decide +kernel
theorem t2_15 : ((List.range 24).all fun i => (List.range 3).all fun k => (fun a b => t2B 15 (a + 1) b) (i : Int) (k : Int)) = true := by decide +kernel
theorem t2_16 : ((List.range 24).all fun i => (List.range 3).all fun k => (fun a b => t2B 16 (a + 1) b) (i : Int) (k : Int)) = true := by decide +kernel
theorem t2_17 : ((List.range 24).all fun i => (List.range 3).all fun k => (fun a b => t2B 17 (a + 1) b) (i : Int) (k : Int)) = true := by decide +kernel
theorem t2_18 : ((List.range 24).all fun i => (List.range 3).all fun k => (fun a b => t2B 18 (a + 1) b) (i : Int) (k : Int)) = true := by decide +kernel
theorem t2_19 : ((List.range 24).all fun i => (List.range 3).all fun k => (fun a b => t2B 19 (a + 1) b) (i : Int) (k : Int)) = true := by decide +kernel
theorem t2_20 : ((List.range 24).all fun i => (List.range 3).all fun k => (fun a b => t2B 20 (a + 1) b) (i : Int) (k : Int)) = true := by decide +kernel
theorem t2_21 : ((List.range 24).all fun i => (List.range 3).all fun k => (fun a b => t2B 21 (a + 1) b) (i : Int) (k : Int)) = true := by decide +kernel
theorem t2_22 : ((List.range 24).all fun i => (List.range 3).all fun k => (fun a b => t2B 22 (a + 1) b) (i : Int) (k : Int)) = true := by decide +kernel
theorem t2_23 : ((List.range 24).all fun i => (List.range 3).all fun k => (fun a b => t2B 23 (a + 1) b) (i : Int) (k : Int)) = true := by decide +kernel
theorem t2_24 : ((List.range 24).all fun i => (List.range 3).all fun k => (fun a b => t2B 24 (a + 1) b) (i : Int) (k : Int)) = true := by decide +kernel
theorem t5_0 : ((List.range 4).all fun i => (List.range 24).all fun j => (fun a b => t5B (a + 1) (b + 1)) (i : Int) (j : Int)) = true := by decide +kernel
theorem t5_1 : ((List.range 4).all fun i => (List.range 24).all fun j => (fun a b => t5B (a + 5) (b + 1)) (i : Int) (j : Int)) = true := by decide +kernel
theorem t5_2 : ((List.range 4).all fun i => (List.range 24).all fun j => (fun a b => t5B (a + 9) (b + 1)) (i : Int) (j : Int)) = true := by decide +kernel
theorem t5_3 : ((List.range 4).all fun i => (List.range 24).all fun j => (fun a b => t5B (a + 13) (b + 1)) (i : Int) (j : Int)) = true := by decide +kernel
theorem t5_4 : ((List.range 4).all fun i => (List.range 24).all fun j => (fun a b => t5B (a + 17) (b + 1)) (i : Int) (j : Int)) = true := by decide +kernel
theorem t5_5 : ((List.range 4).all fun i => (List.range 24).all fun j => (fun a b => t5B (a + 21) (b + 1)) (i : Int) (j : Int)) = true := by decide +kernel
theorem t1_at {m k : Int} (h0 : 1 ≤ m) (h1 : m ≤ 24) (h2 : 0 ≤ k) (h3 : k ≤ 2) : pwI m k = prodI m k ∧ okQ k (pfI m) 1 = true ∧ 0 ≤ prodI m k ∧ prodI m k < 2 ^ 60 := by
  have h := tab2_of (P := fun a b => t1B (a + 1) b) t1_tab (x := m - 1) (y := k) (by omega) (by omega) h2 (by omega)
  rw [show m - 1 + 1 = m by omega] at h
  simp only [t1B, Bool.and_eq_true, decide_eq_true_eq] at h
  exact ⟨h.1.1.1, h.1.1.2, h.1.2, h.2⟩
theorem t3_at {n k : Int} (h0 : 1 ≤ n) (h1 : n ≤ 24) (h2 : 0 ≤ k) (h3 : k ≤ 2) : (List.map (fun one => pwI one k) (rangeKs 1 (n + 1 - 1).toNat)).sum = (List.map (fun d => d ^ k.toNat * n.fdiv d) (rangeKs 1 (n + 1 - 1).toNat)).sum := by
  have h := tab2_of (P := fun a b => t3B (a + 1) b) t3_tab (x := n - 1) (y := k) (by omega) (by omega) h2 (by omega)
  rw [show n - 1 + 1 = n by omega] at h
  exact of_decide_eq_true h
theorem t4_at {n : Int} (h0 : 1 ≤ n) (h1 : n ≤ 24) : (List.map (fun one => one ^ Int.toNat 3) (countsI n)).sum = (countsI n).sum ^ Int.toNat 2 := by
  have h := tab_of (P := fun a => t4B (a + 1)) t4_tab (x := n - 1) (by omega) (by omega)
  rw [show n - 1 + 1 = n by omega] at h
  exact of_decide_eq_true h
theorem t6_at {v : Int} (h0 : 0 ≤ v) (h1 : v < 6) : t6B (2 + v) = true := tab_of (P := fun a => t6B (2 + a)) t6_tab h0 (by omega)
theorem t2_at {m n k : Int} (h0 : 1 ≤ m) (h1 : m ≤ 24) (h2 : 1 ≤ n) (h3 : n ≤ 24) (h4 : 0 ≤ k) (h5 : k ≤ 2) : prodI m k * pwI n k = (List.map (fun d => d ^ k.toNat * pwI ((m * n).fdiv (d * d)) k) (bothI m n)).sum := by
  have go : ∀ M : Int, ((List.range 24).all fun i => (List.range 3).all fun k => (fun a b => t2B M (a + 1) b) (i : Int) (k : Int)) = true → t2B M n k = true := fun M hM => by
    have h := tab2_of (P := fun a b => t2B M (a + 1) b) hM (x := n - 1) (y := k) (by omega) (by omega) h4 (by omega)
    rw [show n - 1 + 1 = n by omega] at h
    exact h
  refine of_decide_eq_true (show t2B m n k = true from go m ?_)
  have hm : m = 1 ∨ m = 2 ∨ m = 3 ∨ m = 4 ∨ m = 5 ∨ m = 6 ∨ m = 7 ∨ m = 8 ∨ m = 9 ∨ m = 10 ∨ m = 11 ∨ m = 12 ∨ m = 13 ∨ m = 14 ∨ m = 15 ∨ m = 16 ∨ m = 17 ∨ m = 18 ∨ m = 19 ∨ m = 20 ∨ m = 21 ∨ m = 22 ∨ m = 23 ∨ m = 24 := by omega
  rcases hm with rfl | rfl | rfl | rfl | rfl | rfl | rfl | rfl | rfl | rfl | rfl | rfl | rfl | rfl | rfl | rfl | rfl | rfl | rfl | rfl | rfl | rfl | rfl | rfl
  · exact t2_1
  · exact t2_2
  · exact t2_3
  · exact t2_4
  · exact t2_5
  · exact t2_6
  · exact t2_7
  · exact t2_8
  · exact t2_9
  · exact t2_10
  · exact t2_11
  · exact t2_12
  · exact t2_13
  · exact t2_14
  · exact t2_15
  · exact t2_16
  · exact t2_17
  · exact t2_18
  · exact t2_19
  · exact t2_20
  · exact t2_21
  · exact t2_22
  · exact t2_23
  · exact t2_24
theorem t5_at {m n : Int} (h0 : 1 ≤ m) (h1 : m ≤ 24) (h2 : 1 ≤ n) (h3 : n ≤ 24) : decide (pwI n 1 * m * n < pwI (m * n) 1 * n) = decide (1 < m) ∧ (bothI m n).length ≤ 24 := by
  have go : ∀ c : Int, ((List.range 4).all fun i => (List.range 24).all fun j => (fun a b => t5B (a + c) (b + 1)) (i : Int) (j : Int)) = true → c ≤ m → m < c + 4 → t5B m n = true := fun c hc ha hb => by
    have h := tab2_of (P := fun a b => t5B (a + c) (b + 1)) hc (x := m - c) (y := n - 1) (by omega) (by omega) (by omega) (by omega)
    rw [show m - c + c = m by omega, show n - 1 + 1 = n by omega] at h
    exact h
  have h : t5B m n = true := by
    have hm : m ≤ 4 ∨ (5 ≤ m ∧ m ≤ 8) ∨ (9 ≤ m ∧ m ≤ 12) ∨ (13 ≤ m ∧ m ≤ 16) ∨ (17 ≤ m ∧ m ≤ 20) ∨ 21 ≤ m := by omega
    rcases hm with h | h | h | h | h | h
    · exact go 1 t5_0 (by omega) (by omega)
    · exact go 5 t5_1 (by omega) (by omega)
    · exact go 9 t5_2 (by omega) (by omega)
    · exact go 13 t5_3 (by omega) (by omega)
    · exact go 17 t5_4 (by omega) (by omega)
    · exact go 21 t5_5 (by omega) (by omega)
  simp only [t5B, Bool.and_eq_true, decide_eq_true_eq] at h
  exact h
end
end Mine

-- part XZ
namespace Mine
section
open PySem PySem.W PyProof.Rows PySem.Calls PySem.Spec
set_option maxRecDepth 100000

theorem law_cut : (defAt 11).1 = [lawS 0, lawS 1, lawS 2, lawS 3, lawS 4, lawS 5, lawS 6, lawS 7, lawS 8, lawS 9, lawS 10, lawS 11, lawS 12, lawS 13, lawS 14] := rfl

theorem off_head {L P : Nat} {a b c d : Obj} (h : L + 1 + 1 + 1 + 1 < P) : ∀ p ∈ [((L + 1 + 1 + 1 + 1 : Addr), a), ((L + 1 + 1 + 1 : Addr), b), ((L + 1 + 1 : Addr), c), ((L + 1 : Addr), d)], p.1 ≠ P := by
  intro p hp
  simp only [List.mem_cons, List.not_mem_nil, or_false] at hp
  rcases hp with h | h | h | h <;> (subst h; dsimp only; omega)

theorem law_all (w : World) (mean : ExcName → Option Value) (mg mb : Str → Option Value) {h₀ : Heap} {L fa : Addr} {cd : Value} {s : Shared} {Q : Flow → Shared → Prop} {E : Value → Shared → Prop}
    (B : Below callerA h₀ [] h₀) (X : (hd.heap_39 w.params).In h₀) (T : Top hd.view_39 (looseW hd.view_39 []) mean mg mb h₀) {m : Str → Option Value} {op on om ok : Obj} {vp vn vm vk : Option Value}
    (F : Fr h₀ L s.heap m) (N : News h₀ L s.heap [(L + 1 + 1 + 1 + 1, op), (L + 1 + 1 + 1, on), (L + 1 + 1, om), (L + 1, ok)])
    (dp : op.data = .cell vp) (dn : on.data = .cell vn) (dm : om.data = .cell vm) (dk : ok.data = .cell vk)
    {l : Addr} {vs : List Value} {ns : List Int} (hscr : m (Str.ofString "script") = some (.ref l)) (hl : h₀.IsList l vs.toArray) (hI : IntsAre vs ns) (hlen : ns.length ≤ 63)
    (hE : PassesOwn (model PySem.Challenge.rw_xm0112_01.row.prog w) (callerA.deeper (lawE L fa cd)) (lawE L fa cd) E)
    (h : ∀ h' tk' m' (news : List (Addr × Obj)), Fr h₀ L h' m' → News h₀ L h' news → Q (.ret (.bool true)) { s with heap := h', toks := tk' }) :
    wpAny (model PySem.Challenge.rw_xm0112_01.row.prog w) (callerA.deeper (lawE L fa cd)) (execs (defAt 11).1 (lawE L fa cd)) Q E s := by
  rw [law_cut]
  refine wpAny_execs_cons (st0 w mean mg mb B X T F hscr hl hI hlen N ?_)
  intro h1 tk1 m1 P S c c' ys t hpool hI1 hSP hS hP F1 N1
  refine wpAny_execs_cons (st1 w mean mg mb B X T F1 dp dn dm dk hpool N1 hI1 ?_ hSP (off_head hP) hS hP ?_)
  · rw [List.length_map, List.length_take]
    omega
  intro h2 tk2 m2 k v1 v2 v3 on' om' ok' tn tm tk tq hq dn2 dm2 dk2 hk0 hk3 a0 a1 b0 b1 c0 c1 F2 N2
  have hk1 : k ≤ 2 := by omega
  obtain ⟨mm, hmm⟩ : ∃ mm, mm = 1 + v1 := ⟨_, rfl⟩
  obtain ⟨n, hnn⟩ : ∃ n, n = 1 + v2 := ⟨_, rfl⟩
  have t6 := t6_at c0 c1
  obtain ⟨q, hqq⟩ : ∃ q, q = 2 + v3 := ⟨_, rfl⟩
  rw [← hqq] at t6 hq
  rw [← hmm] at dm2
  rw [← hnn] at dn2
  have m0 : 1 ≤ mm := by omega
  have m1' : mm ≤ 24 := by omega
  have n0 : 1 ≤ n := by omega
  have n1' : n ≤ 24 := by omega
  have q0 : 2 ≤ q := by omega
  have q1 : q ≤ 7 := by omega
  clear hmm hnn hqq a0 a1 b0 b1 c0 c1
  obtain ⟨t1a, t1b, t1c, t1d⟩ := t1_at m0 m1' hk0 hk1
  obtain ⟨t5a, t5b⟩ := t5_at m0 m1' n0 n1'
  simp only [t6B, Bool.and_eq_true, decide_eq_true_eq, beq_iff_eq] at t6
  obtain ⟨⟨⟨⟨⟨⟨⟨⟨⟨tA, tB⟩, tC⟩, tD⟩, te⟩, tf⟩, tg⟩, th⟩, ti⟩, tj⟩ := t6
  have hmn : okP (mm * n) = true := by
    have i1 : mm * n ≤ 24 * 24 := Int.mul_le_mul m1' n1' (by omega) (by omega)
    have i2 := Int.mul_pos (a := mm) (b := n) (by omega) (by omega)
    exact okP_small (by omega) (by omega)
  have hds : (dsI n).length < 64 := by
    have h := okP_small n0 (by omega : n ≤ 576)
    simp only [okP, okD, Bool.and_eq_true, decide_eq_true_eq] at h
    omega
  refine wpAny_execs_cons (st2 w mean mg mb B X T F2 N2 dp dn2 dm2 dk2 m0 m1' ?_)
  intro h3 tk3 F3 N3
  refine wpAny_execs_cons (st3 w mean mg mb B X T F3 N3 ?_)
  intro h4 tk4 t4 m4 hq4 hp4 F4 N4
  refine wpAny_execs_cons (st4 w mean mg mb B X T F4 N4 dp dn2 dm2 dk2 m0 m1' hk0 hk1 hp4 t1b hE ?_)
  intro h5 tk5 t5 m5 op5 vp5 hq5 hp5 dp5 F5 N5
  refine wpAny_execs_cons (st5 w mean mg mb B X T F5 N5 dp5 dn2 dm2 dk2 m0 m1' hk0 hk1 hp5 t1a ?_)
  intro h6 tk6 F6 N6
  refine wpAny_execs_cons (st6 w mean mg mb B X T F6 N6 dp5 dn2 dm2 dk2 m0 m1' n0 n1' ?_)
  intro h7 tk7 m7 D7 ys7 c7 hq7 hp7 hb7 F7 N7 I7
  refine wpAny_execs_cons (st7 w mean mg mb B X T F7 dp5 dn2 dm2 dk2 m0 m1' n0 n1' hk0 hk1 (hp7.trans hp5) hb7 N7 I7 t5b t1c t1d (t2_at m0 m1' n0 n1' hk0 hk1) ?_)
  intro h8 tk8 F8 N8
  refine wpAny_execs_cons (st8 w mean mg mb B X T F8 N8 dp5 dn2 dm2 dk2 n0 n1' hk0 hk1 (t3_at n0 n1' hk0 hk1) ?_)
  intro h9 tk9 F9 N9
  refine wpAny_execs_cons (st9 w mean mg mb B X T F9 N9 dp5 dn2 dm2 dk2 n0 n1' hds ?_)
  intro h10 tk10 m10 D10 ys10 c10 hq10 hc10 F10 N10 I10
  refine wpAny_execs_cons (st10 w mean mg mb B X T F10 dp5 dn2 dm2 dk2 n0 n1' hc10 N10 I10 (t4_at n0 n1') ?_)
  intro h11 tk11 F11 N11
  refine wpAny_execs_cons (st11 w mean mg mb B X T F11 N11 dp5 dn2 dm2 dk2 n0 n1' m0 m1' hmn t5a ?_)
  intro h12 tk12 F12 N12
  have hq12 : m10 (Str.ofString "q") = some (.int q tq) := (((hq10.trans hq7).trans hq5).trans hq4).trans hq
  refine wpAny_execs_cons (st12 w mean mg mb B X T F12 N12 dp5 dn2 dm2 dk2 hq12 q0 q1 ⟨te, tf⟩ ?_)
  intro h13 tk13 m13 t13 hq13 hh13 F13 N13
  refine wpAny_execs_cons (st13 w mean mg mb B X T F13 N13 dp5 dn2 dm2 dk2 (hq13.trans hq12) hh13 q0 q1 tg ⟨th, ti⟩ tj ?_)
  intro h14 tk14 F14 N14
  refine wpAny_execs_cons (st14 w mean mg mb B X T F14 N14 dp5 dn2 dm2 dk2 (hq13.trans hq12) q0 q1 tA tB tC tD ?_)
  intro h15 tk15 F15 N15
  exact h h15 tk15 m13 _ F15 N15
end
end Mine

-- part XY
namespace Mine
section
open PySem PySem.W PyProof.Rows PySem.Calls PySem.Spec
theorem fresh_XY : True := by w_top off; k_with_none; trivial
set_option maxRecDepth 100000 in
set_option maxHeartbeats 8000000 in
theorem law1 : PySem.Challenge.rw_xm0112_01.Holds := hd (by
  k_go0
  refine law_all _ _ _ _ (by assumption) (by assumption) (by assumption) (by assumption) (by assumption) (by assumption) (by assumption) (by assumption) (by assumption) (by exact rfl) (by assumption) (by assumption) ?hlen ?hE ?hend
  · omega
  · passes_own
  intro h' tk' m' news F9 N9
  k_steps)
end
end Mine

theorem PySem.Challenge.cw_xm0112_01_holds : PySem.Challenge.rw_xm0112_01.Holds := by
  exact Mine.law1
