import PyProof.Rows.All
import Wide.All
import OpenK.AllK
import Wide.FinOn
import Lean
import PySem.Challenge.RW_xm0683_01
open PySem PySem.W PyProof.Rows
set_option Elab.async false
set_option rowWalk.seconds 0
namespace Mine

section
set_option maxRecDepth 100000 in
set_option maxHeartbeats 8000000 in
open_top hd for PySem.Challenge.rw_xm0683_01

end

section
/-- what stands ahead of each contract: the frames, the ledger, the top -/
abbrev Con (w : World) (mean : ExcName → Option Value) (mg mb : Str → Option Value) (f : Addr) (vs : List Value) (news : List (Addr × Obj)) (dp0 un0 : Nat)
    (Ret : (Heap → List (Addr × Obj) → Prop) → (Value → Heap → Nat → Prop) → Prop) : Prop :=
  ∀ (dp un : Nat) (gd : Option (List Code)) (cn : Str) (cs : Scope) (a : Addr) (ccd : Value) (cl : List (Str × Addr)) (outer : List Env) (A₀ : Around) (base h₀ : Heap) (L : Addr) (m : Str → Option Value) (s : Shared) (Q E : Value → Shared → Prop),
    Below A₀ base outer h₀ → Fr h₀ L s.heap m → (Mine.hd.heap_39 w.params).In h₀ → News h₀ L s.heap news →
    Top Mine.hd.view_39 (looseW Mine.hd.view_39 [PySem.Str.ofString "RowsError", PySem.Str.ofString "LIMITS"]) mean mg mb h₀ → cs.kind = .function →
    dp + dp0 < recursionLimit → un + un0 < cLine →
    Ret (fun h' news' => Fr h₀ L h' m ∧ News h₀ L h' news') (fun v h' tk' => Q v { s with heap := h', toks := tk' }) →
    wpAny (model (PySem.W.OpenLaw.row PySem.Challenge.rw_xm0683_01).prog w) (ktrTop dp un gd cn cs L a ccd cl outer) (call (.ref f) vs) Q E s

def leadOf (x : Int) : Option (Int × Int) :=
  if x < 128 then some (0, x) else if 192 ≤ x ∧ x < 224 then some (1, x - 192) else if 224 ≤ x ∧ x < 240 then some (2, x - 224)
  else if 240 ≤ x ∧ x < 248 then some (3, x - 240) else none

abbrev tup (l : List Value) (n : Nat) : Obj := { cls := .type "tuple", data := .seq l.toArray n }

theorem qv {Q : Value → Shared → Prop} {v v' : Value} {s : Shared} (h : Q v s) (e : v = v') : Q v' s := e ▸ h
def sizeOf' (c : Int) : Int := if c < 128 then 1 else if c < 2048 then 2 else if c < 65536 then 3 else 4
def lo2 (x : Int) : Int := if x = 224 then 160 else 128
def hi2 (x : Int) : Int := if x = 237 then 159 else 191
def lo3 (x : Int) : Int := if x = 240 then 144 else 128
def hi3 (x : Int) : Int := if x = 244 then 143 else 191
def secondsOf (x : Int) : Option (Int × Int × Int) :=
  if x < 128 then some (0, 128, 191) else if 194 ≤ x ∧ x ≤ 223 then some (1, 128, 191)
  else if 224 ≤ x ∧ x ≤ 239 then some (2, lo2 x, hi2 x)
  else if 240 ≤ x ∧ x ≤ 244 then some (3, lo3 x, hi3 x) else none
def inR (lo x hi : Int) : Bool := decide (lo ≤ x ∧ x ≤ hi)
def lawCode (ns : List Int) : Option Int :=
  match secondsOf (ns.getD 0 0) with
  | none => none
  | some (k, lo, hi) =>
    if (ns.length : Int) ≤ k then none
    else if k = 0 then some (ns.getD 0 0)
    else if k = 1 then (if inR lo (ns.getD 1 0) hi then some (64 * (ns.getD 0 0 - 192) + ns.getD 1 0 - 128) else none)
    else if k = 2 then (if inR lo (ns.getD 1 0) hi && inR 128 (ns.getD 2 0) 191 then some (64 * (64 * (ns.getD 0 0 - 224) + ns.getD 1 0 - 128) + ns.getD 2 0 - 128) else none)
    else (if inR lo (ns.getD 1 0) hi && inR 128 (ns.getD 2 0) 191 && inR 128 (ns.getD 3 0) 191 then some (64 * (64 * (64 * (ns.getD 0 0 - 240) + ns.getD 1 0 - 128) + ns.getD 2 0 - 128) + ns.getD 3 0 - 128) else none)
abbrev lst (l : List Value) (n : Nat) : Obj := { cls := .type "list", data := .seq l.toArray n }

theorem con_use {w : World} {mean : ExcName → Option Value} {mg mb : Str → Option Value} {f : Addr} {vs : List Value} {news : List (Addr × Obj)} {dp0 un0 : Nat}
    {Ret : (Heap → List (Addr × Obj) → Prop) → (Value → Heap → Nat → Prop) → Prop} (C : Con w mean mg mb f vs news dp0 un0 Ret)
    {dp un : Nat} {gd : Option (List Code)} {cn : Str} {cs : Scope} {a : Addr} {ccd : Value} {cl : List (Str × Addr)} {outer : List Env} {A₀ : Around} {base h₀ : Heap} {L : Addr} {m : Str → Option Value} {s : Shared} {Q E : Value → Shared → Prop}
    (B : Below A₀ base outer h₀) (F : Fr h₀ L s.heap m) (X : (Mine.hd.heap_39 w.params).In h₀) (N : News h₀ L s.heap news)
    (T : Top Mine.hd.view_39 (looseW Mine.hd.view_39 [PySem.Str.ofString "RowsError", PySem.Str.ofString "LIMITS"]) mean mg mb h₀) (hk : cs.kind = .function)
    (hd : dp + dp0 < recursionLimit) (hu : un + un0 < cLine) (ret : Ret (fun h' news' => Fr h₀ L h' m ∧ News h₀ L h' news') (fun v h' tk' => Q v { s with heap := h', toks := tk' })) :
    wpAny (model (PySem.W.OpenLaw.row PySem.Challenge.rw_xm0683_01).prog w) (ktrTop dp un gd cn cs L a ccd cl outer) (call (.ref f) vs) Q E s :=
  C _ _ _ _ _ _ _ _ _ _ _ _ _ _ _ _ _ B F X N T hk hd hu ret
theorem con_app {w : World} {mean : ExcName → Option Value} {mg mb : Str → Option Value} {f : Addr} {vs : List Value} {news : List (Addr × Obj)} {dp0 un0 : Nat}
    {Ret : (Heap → List (Addr × Obj) → Prop) → (Value → Heap → Nat → Prop) → Prop}
    {dp un : Nat} {gd : Option (List Code)} {cn : Str} {cs : Scope} {a : Addr} {ccd : Value} {cl : List (Str × Addr)} {outer : List Env} {A₀ : Around} {base h₀ : Heap} {L : Addr} {m : Str → Option Value} {s : Shared} {Q E : Value → Shared → Prop}
    (B : Below A₀ base outer h₀) (F : Fr h₀ L s.heap m) (X : (Mine.hd.heap_39 w.params).In h₀) (N : News h₀ L s.heap news)
    (T : Top Mine.hd.view_39 (looseW Mine.hd.view_39 [PySem.Str.ofString "RowsError", PySem.Str.ofString "LIMITS"]) mean mg mb h₀) (hk : cs.kind = .function)
    (hd : dp + dp0 < recursionLimit) (hu : un + un0 < cLine) (C : Con w mean mg mb f vs news dp0 un0 Ret) (ret : Ret (fun h' news' => Fr h₀ L h' m ∧ News h₀ L h' news') (fun v h' tk' => Q v { s with heap := h', toks := tk' })) :
    wpAny (model (PySem.W.OpenLaw.row PySem.Challenge.rw_xm0683_01).prog w) (ktrTop dp un gd cn cs L a ccd cl outer) (call (.ref f) vs) Q E s :=
  C _ _ _ _ _ _ _ _ _ _ _ _ _ _ _ _ _ B F X N T hk hd hu ret
theorem news_mid {h₀ h : Heap} {L : Addr} {a : Addr × Obj} {pre post : List (Addr × Obj)} : News h₀ L h (a :: (pre ++ post)) ↔ News h₀ L h (pre ++ a :: post) := by
  unfold News
  simp only [List.mem_cons, List.mem_append]
  constructor
  · rintro H p (h | h | h)
    · exact H p (.inr (.inl h))
    · exact H p (.inl h)
    · exact H p (.inr (.inr h))
  · rintro H p (h | h | h)
    · exact H p (.inr (.inl h))
    · exact H p (.inl h)
    · exact H p (.inr (.inr h))

section
variable {prog : Program} {w : World} {A : Around} {E : Value → Shared → Prop} {s : Shared} {h₀ : Heap} {L D : Addr} {m : Str → Option Value} {news rest : List (Addr × Obj)} {vs : List Value} {n : Nat} {ns : List Int} {u : Tok}
theorem row_get {value slice : PySem.Expr} {i : Int} (j : Nat) {Q : Value → Shared → Prop} (N : News h₀ L s.heap news) (hm : (D, listOf vs.toArray n) ∈ news) (hi : IntsAre vs ns) (hj : i = (j : Int)) (hl : j < ns.length) (hl2 : j < 1000) (h : ∀ t, Q (.int (ns.getD j 0) t) s)
    (hs : subscripted slice false (.ref D) (.int i u) = operate [.ref D, .int i u] (getItem (.ref D) (.int i u))) :
    wpAny (model prog w) A (subscriptTail value slice (.ref D) (.int i u)) Q E s :=
  ksa_sub N hm hi (by omega) (by omega) (by omega) (fun t => by subst hj; simpa using h t) hs
end

theorem allLt_ne {d : Addr} : ∀ {l : List (Addr × Obj)}, AllLt d l → ∀ p ∈ l, p.1 ≠ d
  | [], _, _, hp => (nomatch hp)
  | q :: r, h, p, hp => by
    rcases List.mem_cons.mp hp with rfl | hp
    · exact Nat.ne_of_lt h.1
    · exact allLt_ne h.2 p hp
theorem unrEnd_mid {h₀ : Heap} {L I : Addr} {it : Obj} {rest : (Str → Option Value) → List (Addr × Obj) → Prop} {s₁ : Shared} {h' : Heap} {tk : Nat} {m' : Str → Option Value} {pre post : List (Addr × Obj)}
    (F : Fr h₀ L h' m') (N : News h₀ L h' (pre ++ (I, it) :: post)) (o1 : ∀ p ∈ pre, p.1 ≠ I) (o2 : ∀ p ∈ post, p.1 ≠ I) (r : rest m' (pre ++ post)) : UnrEnd h₀ L s₁ I it rest { s₁ with heap := h', toks := tk } :=
  UnrEnd.intro F (news_mid.2 N) (pre ++ post) (fun _ hp => hp) (fun p hp => (List.mem_append.mp hp).elim (o1 p) (o2 p)) r

theorem sec0 {x : Int} (h : x < 128) : secondsOf x = some (0, 128, 191) := by unfold secondsOf; rw [if_pos h]
theorem sec1 {x : Int} (h : 194 ≤ x) (h2 : x ≤ 223) : secondsOf x = some (1, 128, 191) := by unfold secondsOf; rw [if_neg (by omega), if_pos ⟨h, h2⟩]
theorem sec2 {x : Int} (h : 224 ≤ x) (h2 : x ≤ 239) : secondsOf x = some (2, lo2 x, hi2 x) := by unfold secondsOf; rw [if_neg (by omega), if_neg (by omega), if_pos ⟨h, h2⟩]
theorem sec3 {x : Int} (h : 240 ≤ x) (h2 : x ≤ 244) : secondsOf x = some (3, lo3 x, hi3 x) := by unfold secondsOf; rw [if_neg (by omega), if_neg (by omega), if_neg (by omega), if_pos ⟨h, h2⟩]

section
variable {ns : List Int} {k lo hi : Int}
theorem lcN (h : secondsOf (ns.getD 0 0) = none) : lawCode ns = none := by unfold lawCode; rw [h]
theorem lcS (h : secondsOf (ns.getD 0 0) = some (k, lo, hi)) (hl : (ns.length : Int) ≤ k) : lawCode ns = none := by unfold lawCode; rw [h]; dsimp only; rw [if_pos hl]
theorem inR_t {a x b : Int} (h : a ≤ x) (h2 : x ≤ b) : inR a x b = true := decide_eq_true ⟨h, h2⟩
theorem inR_f {a x b : Int} (h : ¬ (a ≤ x ∧ x ≤ b)) : inR a x b = false := decide_eq_false h
theorem lc0 (h : ns.getD 0 0 < 128) (hl : ¬ (ns.length : Int) ≤ 0) : lawCode ns = some (ns.getD 0 0 - 0) := by unfold lawCode; rw [sec0 h]; dsimp only; rw [if_neg hl, if_pos rfl, Int.sub_zero]
theorem lc1b (h : 194 ≤ ns.getD 0 0) (h2 : ns.getD 0 0 ≤ 223) (hb : ¬ (128 ≤ ns.getD 1 0 ∧ ns.getD 1 0 ≤ 191)) : lawCode ns = none := by
  unfold lawCode; rw [sec1 h h2]; dsimp only; rw [inR_f hb]; simp
theorem lc1o (h : 194 ≤ ns.getD 0 0) (h2 : ns.getD 0 0 ≤ 223) (hl : ¬ (ns.length : Int) ≤ 1) (hb : 128 ≤ ns.getD 1 0) (hb2 : ns.getD 1 0 ≤ 191) : lawCode ns = some (64 * (ns.getD 0 0 - 192) + ns.getD 1 0 - 128) := by
  unfold lawCode; rw [sec1 h h2]; dsimp only; rw [inR_t hb hb2, if_neg hl, if_neg (by decide), if_pos rfl, if_pos rfl]
theorem lc2b (h : 224 ≤ ns.getD 0 0) (h2 : ns.getD 0 0 ≤ 239) (hb : ¬ (lo2 (ns.getD 0 0) ≤ ns.getD 1 0 ∧ ns.getD 1 0 ≤ hi2 (ns.getD 0 0))) : lawCode ns = none := by
  unfold lawCode; rw [sec2 h h2]; dsimp only; rw [inR_f hb]; simp
theorem lc2c (h : 224 ≤ ns.getD 0 0) (h2 : ns.getD 0 0 ≤ 239) (hb : ¬ (128 ≤ ns.getD 2 0 ∧ ns.getD 2 0 ≤ 191)) : lawCode ns = none := by
  unfold lawCode; rw [sec2 h h2]; dsimp only; rw [inR_f hb]; simp
theorem lc2o (h : 224 ≤ ns.getD 0 0) (h2 : ns.getD 0 0 ≤ 239) (hl : ¬ (ns.length : Int) ≤ 2) (hb : lo2 (ns.getD 0 0) ≤ ns.getD 1 0) (hb2 : ns.getD 1 0 ≤ hi2 (ns.getD 0 0)) (hc : 128 ≤ ns.getD 2 0) (hc2 : ns.getD 2 0 ≤ 191) :
    lawCode ns = some (64 * (64 * (ns.getD 0 0 - 224) + ns.getD 1 0 - 128) + ns.getD 2 0 - 128) := by
  unfold lawCode; rw [sec2 h h2]; dsimp only; rw [inR_t hb hb2, inR_t hc hc2, if_neg hl, if_neg (by decide), if_neg (by decide), if_pos rfl]; rfl
theorem lc3b (h : 240 ≤ ns.getD 0 0) (h2 : ns.getD 0 0 ≤ 244) (hb : ¬ (lo3 (ns.getD 0 0) ≤ ns.getD 1 0 ∧ ns.getD 1 0 ≤ hi3 (ns.getD 0 0))) : lawCode ns = none := by
  unfold lawCode; rw [sec3 h h2]; dsimp only; rw [inR_f hb]; simp
theorem lc3c (h : 240 ≤ ns.getD 0 0) (h2 : ns.getD 0 0 ≤ 244) (hb : ¬ (128 ≤ ns.getD 2 0 ∧ ns.getD 2 0 ≤ 191)) : lawCode ns = none := by
  unfold lawCode; rw [sec3 h h2]; dsimp only; rw [inR_f hb]; simp
theorem lc3d (h : 240 ≤ ns.getD 0 0) (h2 : ns.getD 0 0 ≤ 244) (hb : ¬ (128 ≤ ns.getD 3 0 ∧ ns.getD 3 0 ≤ 191)) : lawCode ns = none := by
  unfold lawCode; rw [sec3 h h2]; dsimp only; rw [inR_f hb]; simp
theorem lc3o (h : 240 ≤ ns.getD 0 0) (h2 : ns.getD 0 0 ≤ 244) (hl : ¬ (ns.length : Int) ≤ 3) (hb : lo3 (ns.getD 0 0) ≤ ns.getD 1 0) (hb2 : ns.getD 1 0 ≤ hi3 (ns.getD 0 0)) (hc : 128 ≤ ns.getD 2 0) (hc2 : ns.getD 2 0 ≤ 191) (hd : 128 ≤ ns.getD 3 0) (hd2 : ns.getD 3 0 ≤ 191) :
    lawCode ns = some (64 * (64 * (64 * (ns.getD 0 0 - 240) + ns.getD 1 0 - 128) + ns.getD 2 0 - 128) + ns.getD 3 0 - 128) := by
  unfold lawCode; rw [sec3 h h2]; dsimp only; rw [inR_t hb hb2, inR_t hc hc2, inR_t hd hd2, if_neg hl, if_neg (by decide), if_neg (by decide), if_neg (by decide)]; rfl
end

theorem news_tl {h₀ h : Heap} {L : Addr} {a : Addr × Obj} {l : List (Addr × Obj)} (N : News h₀ L h (a :: l)) : News h₀ L h l := fun p hp => N p (.tail _ hp)

end
local macro_rules | `(tactic| walk_at $s:str) => `(tactic| k_extra $s)
local macro_rules | `(tactic| k_all) => `(tactic| exact allLt_ne (by first | assumption | exact allLt_of (by assumption) | exact And.right (by assumption) | exact And.right (And.right (by assumption)) | exact And.right (And.right (And.right (by assumption))) | exact And.right (And.right (And.right (And.right (by assumption)))) | exact And.right (And.right (And.right (And.right (And.right (by assumption))))) | exact And.right (And.right (And.right (And.right (And.right (And.right (by assumption))))))))
local macro_rules | `(tactic| k_all) => `(tactic| assumption)
local macro_rules | `(tactic| k_ne) => `(tactic| (refine neN ?_; (try dsimp only); first | exact Nat.ne_of_gt (by walk_at "mine.and") | exact Nat.ne_of_lt (by walk_at "mine.and") | exact Ne.symm (by walk_at "mine.and") | exact (by walk_at "mine.and")))

section
set_option maxRecDepth 100000 in
set_option maxHeartbeats 8000000 in
theorem seconds_con (w : World) (mean : ExcName → Option Value) (mg mb : Str → Option Value) (news : List (Addr × Obj)) (x : Int) (tx : Tok) (h0 : 0 ≤ x) (h1 : x < 256) :
    Con w mean mg mb 118 [.int x tx] news 1 8 (fun G q =>
      (secondsOf x = none → ∀ h' tk', G h' news → q .none h' tk') ∧
      (x < 128 → ∀ D t1 t2 t3 n h' tk', G h' ((D, tup [.int 0 t1, .int 128 t2, .int 191 t3] n) :: news) → AllLt D news → q (.ref D) h' tk') ∧
      (194 ≤ x → x ≤ 223 → ∀ D t1 t2 t3 n h' tk', G h' ((D, tup [.int 1 t1, .int 128 t2, .int 191 t3] n) :: news) → AllLt D news → q (.ref D) h' tk') ∧
      (224 ≤ x → x ≤ 239 → ∀ D t1 t2 t3 n h' tk', G h' ((D, tup [.int 2 t1, .int (lo2 x) t2, .int (hi2 x) t3] n) :: news) → AllLt D news → q (.ref D) h' tk') ∧
      (240 ≤ x → x ≤ 244 → ∀ D t1 t2 t3 n h' tk', G h' ((D, tup [.int 3 t1, .int (lo3 x) t2, .int (hi3 x) t3] n) :: news) → AllLt D news → q (.ref D) h' tk')) := by
  dsimp only [Con]
  k_fill
  intro dp un gd cn cs a ccd cl outer A₀ base h₀ L m s Q E B F X N T hk hd hu hret
  refine wpAny_call ?_
  k_dflt cell_enter
  k_steps
  all_goals (
    obtain ⟨r0, r1, r2, r3, r4⟩ := hret
    first
    | exact r0 (by unfold secondsOf; (repeat' split) <;> first | rfl | omega) _ _ ⟨by k_asm, by k_asm⟩
    | exact r1 (by omega) _ _ _ _ _ _ _ ⟨by k_asm, by k_asm⟩ (allLt_of (by assumption))
    | exact r2 (by omega) (by omega) _ _ _ _ _ _ _ ⟨by k_asm, by k_asm⟩ (allLt_of (by assumption))
    | (have r3' := r3 (by omega) (by omega); unfold lo2 hi2 at r3'; simp (disch := omega) only [if_pos, if_neg] at r3'; exact r3' _ _ _ _ _ _ _ ⟨by k_asm, by k_asm⟩ (allLt_of (by assumption)))
    | (have r4' := r4 (by omega) (by omega); unfold lo3 hi3 at r4'; simp (disch := omega) only [if_pos, if_neg] at r4'; exact r4' _ _ _ _ _ _ _ ⟨by k_asm, by k_asm⟩ (allLt_of (by assumption)))
    | (trace_state; w_report))

end

section
section
variable {prog : Program} {w : World} {A : Around} {E : Value → Shared → Prop} {s : Shared} {h₀ : Heap} {L D : Addr} {m : Str → Option Value} {news rest : List (Addr × Obj)} {vs : List Value} {n : Nat} {x y : Int} {u : Tok}
theorem src_get0 {value slice : PySem.Expr} {Q : Value → Shared → Prop} (N : News h₀ L s.heap news) (hm : (D, listOf vs.toArray n) ∈ news) (hi : IntsAre vs [x, y]) (h : ∀ t, Q (.int x t) s)
    (hs : subscripted slice false (.ref D) (.int 0 u) = operate [.ref D, .int 0 u] (getItem (.ref D) (.int 0 u))) :
    wpAny (model prog w) A (subscriptTail value slice (.ref D) (.int 0 u)) Q E s :=
  ksa_sub N hm hi (by decide) (by simp) (by decide) (fun t => h t) hs
theorem src_get1 {value slice : PySem.Expr} {Q : Value → Shared → Prop} (N : News h₀ L s.heap news) (hm : (D, listOf vs.toArray n) ∈ news) (hi : IntsAre vs [x, y]) (h : ∀ t, Q (.int y t) s)
    (hs : subscripted slice false (.ref D) (.int 1 u) = operate [.ref D, .int 1 u] (getItem (.ref D) (.int 1 u))) :
    wpAny (model prog w) A (subscriptTail value slice (.ref D) (.int 1 u)) Q E s :=
  ksa_sub N hm hi (by decide) (by simp) (by decide) (fun t => h t) hs
theorem src_set0 {z : Int} {t : Tok} {Q : Unit → Shared → Prop} (F : Fr h₀ L s.heap m) (N : News h₀ L s.heap ((D, listOf vs.toArray n) :: rest)) (hne : ∀ p ∈ rest, p.1 ≠ D) (hi : IntsAre vs [x, y])
    (h : ∀ h' vs', Fr h₀ L h' m → News h₀ L h' ((D, listOf vs'.toArray n) :: rest) → IntsAre vs' [z, y] → Q () { s with heap := h' }) :
    wpAny (model prog w) A (setItem (.ref D) (.int 0 t) (.int z u)) Q E s :=
  ksa_set F N (.head hne) hi (by decide) (by simp) (by decide) fun h' F' N' I' _ _ => h h' _ F' N' I'
theorem src_set1 {z : Int} {t : Tok} {Q : Unit → Shared → Prop} (F : Fr h₀ L s.heap m) (N : News h₀ L s.heap ((D, listOf vs.toArray n) :: rest)) (hne : ∀ p ∈ rest, p.1 ≠ D) (hi : IntsAre vs [x, y])
    (h : ∀ h' vs', Fr h₀ L h' m → News h₀ L h' ((D, listOf vs'.toArray n) :: rest) → IntsAre vs' [x, z] → Q () { s with heap := h' }) :
    wpAny (model prog w) A (setItem (.ref D) (.int 1 t) (.int z u)) Q E s :=
  ksa_set F N (.head hne) hi (by decide) (by simp) (by decide) fun h' F' N' I' _ _ => h h' _ F' N' I'
end
set_option maxRecDepth 100000 in
set_option maxHeartbeats 8000000 in
theorem take_con (w : World) (mean : ExcName → Option Value) (mg mb : Str → Option Value) (rest : List (Addr × Obj)) (src : Addr) (x y top : Int) (tt : Tok) (n : Nat) (vs : List Value)
    (hi : IntsAre vs [x, y]) (hx : 0 ≤ x) (hy : 0 ≤ y) (hy2 : y < 2147483647) (ht : 0 < top) (ht2 : top ≤ 8) (hne : ∀ p ∈ rest, p.1 ≠ src) :
    Con w mean mg mb 104 [.ref src, .int top tt] ((src, listOf vs.toArray n) :: rest) 1 8 (fun G q => ∀ d t x' y' vs' n' h' tk', 0 ≤ d → d < top → IntsAre vs' [x', y'] → 0 ≤ x' → 0 ≤ y' → y' < 2147483647 →
      G h' ((src, listOf vs'.toArray n') :: rest) → q (.int d t) h' tk') := by
  w_top off
  k_with_none
  k_with "subscriptTail Name Constant ref int" => (k_here; (with_reducible show wpAny _ _ (subscriptTail _ _ (Value.ref _) (Value.int _ _)) _ _ _); k_dflt (first
    | ((with_reducible show wpAny _ _ (subscriptTail _ _ (Value.ref _) (Value.int 0 _)) _ _ _); refine src_get0 (by k_asm) (by k_mem) (by with_reducible assumption) ?_ (by with_unfolding_all rfl); k_whole)
    | ((with_reducible show wpAny _ _ (subscriptTail _ _ (Value.ref _) (Value.int 1 _)) _ _ _); refine src_get1 (by k_asm) (by k_mem) (by with_reducible assumption) ?_ (by with_unfolding_all rfl); k_whole)); intro _)
  k_with "setItem ref int" => (k_here; (with_reducible show wpAny _ _ (PySem.setItem (Value.ref _) (Value.int _ _) (Value.int _ _)) _ _ _); k_dflt (first
    | ((with_reducible show wpAny _ _ (PySem.setItem (Value.ref _) (Value.int 0 _) (Value.int _ _)) _ _ _); refine src_set0 (by k_asm) (by k_asm) (by assumption) (by with_reducible assumption) ?_; k_whole)
    | ((with_reducible show wpAny _ _ (PySem.setItem (Value.ref _) (Value.int 1 _) (Value.int _ _)) _ _ _); refine src_set1 (by k_asm) (by k_asm) (by assumption) (by with_reducible assumption) ?_; k_whole)); intro h' vs' F' N' hi'; (try k_sweep))
  dsimp only [Con]
  k_fill
  intro dp un gd cn cs a ccd cl outer A₀ base h₀ L m s Q E B F X N T hk hd hu hret
  refine wpAny_call ?_
  k_dflt cell_enter
  k_steps
  all_goals (first
    | exact hret _ _ _ _ _ _ _ _ (fmod_lo _ ht) (fmod_hi _ ht) (by assumption) (Int.fdiv_nonneg hx (Int.le_of_lt ht)) hy hy2 ⟨by k_asm, by k_asm⟩
    | exact hret _ _ _ _ _ _ _ _ (fmod_lo _ ht) (fmod_hi _ ht) (by assumption) hx (fmod_lo _ (by decide)) (fmod_hi _ (by decide)) ⟨by k_asm, by k_asm⟩
    | w_report)

end

section
local macro_rules | `(tactic| k_mem) => `(tactic| assumption)
set_option maxRecDepth 100000 in
set_option maxHeartbeats 8000000 in
theorem one_con (w : World) (mean : ExcName → Option Value) (mg mb : Str → Option Value) (rest : List (Addr × Obj)) (src thg : Addr) (x y : Int) (n k : Nat) (vs us : List Value) (xs : List Int)
    (hi : IntsAre vs [x, y]) (hx : 0 ≤ x) (hy : 0 ≤ y) (hy2 : y < 2147483647) (hne : ∀ p ∈ rest, p.1 ≠ src) (hm : (thg, listOf us.toArray k) ∈ rest) (hj : IntsAre us xs) (hl : 0 < xs.length) (hl8 : xs.length ≤ 8) :
    Con w mean mg mb 111 [.ref src, .ref thg] ((src, listOf vs.toArray n) :: rest) 2 16 (fun G q => ∀ d t x' y' vs' n' h' tk', 0 ≤ d → d < (xs.length : Int) → IntsAre vs' [x', y'] → 0 ≤ x' → 0 ≤ y' → y' < 2147483647 →
      G h' ((src, listOf vs'.toArray n') :: rest) → q (.int (xs.getD d.toNat 0) t) h' tk') := by
  w_top off
  k_with_none
  k_with "call builtin:len" => (k_here; (with_reducible show wpAny _ _ (call (Value.builtin _) [Value.ref _]) _ _ _); k_dflt (refine len_ints_fit (News.isList (by k_asm) (by k_mem)) (by with_reducible assumption) (by omega) ?_; k_whole))
  k_with "call ref" => (
    k_here
    (with_reducible show wpAny _ _ (call (Value.ref 104) [Value.ref _, Value.int _ _]) _ _ _)
    k_dflt (refine con_app (by k_asm) (by k_asm) (by k_asm) (by k_asm) (by k_asm) (by first | exact rfl | assumption) (by ktr_room) (by ktr_units) (take_con _ _ _ _ _ _ _ _ _ _ _ _ (by with_reducible assumption) (by assumption) (by assumption) (by assumption) (by omega) (by omega) (by assumption)) ?_)
    (try dsimp only)
    intro d' t' x' y' vs' n' h' tk' hd1' hd2' hi' hx' hy1' hy2' hFN'
    (obtain ⟨F', N'⟩ := hFN')
    (try k_fold)
    (try k_sweep))
  dsimp only [Con]
  k_fill
  intro dp un gd cn cs a ccd cl outer A₀ base h₀ L m s Q E B F X N T hk hd hu hret
  refine wpAny_call ?_
  k_dflt cell_enter
  k_steps
  all_goals (exact hret _ _ _ _ _ _ _ _ (by assumption) (by assumption) (by assumption) (by assumption) (by assumption) (by assumption) ⟨by k_asm, by k_asm⟩)

end

section
local macro_rules | `(tactic| k_mem) => `(tactic| assumption)
set_option maxRecDepth 100000 in
set_option maxHeartbeats 8000000 in
theorem code_con (w : World) (mean : ExcName → Option Value) (mg mb : Str → Option Value) (news : List (Addr × Obj)) (row : Addr) (n : Nat) (vs : List Value) (ns : List Int)
    (hi : IntsAre vs ns) (hm : (row, listOf vs.toArray n) ∈ news) (hb : ∀ v ∈ ns, 0 ≤ v ∧ v < 256) (hl : 0 < ns.length) (hl8 : ns.length ≤ 8) :
    Con w mean mg mb 125 [.ref row] news 2 16 (fun G q => (lawCode ns = none → ∀ h' tk', G h' news → q .none h' tk') ∧ (∀ c t h' tk', lawCode ns = some c → G h' news → q (.int c t) h' tk')) := by
  w_top off
  k_with_none
  k_with "UnrEnd" => ((first
    | (refine unrEnd_mid (pre := []) (by k_asm) (by k_asm) (by k_all) (by k_all) ?_; k_whole)
    | (refine unrEnd_mid (pre := [_]) (by k_asm) (by k_asm) (by k_all) (by k_all) ?_; k_whole)
    | (refine unrEnd_mid (pre := [_, _]) (by k_asm) (by k_asm) (by k_all) (by k_all) ?_; k_whole)
    | (refine unrEnd_mid (pre := [_, _, _]) (by k_asm) (by k_asm) (by k_all) (by k_all) ?_; k_whole)
    | (refine unrEnd_mid (pre := [_, _, _, _]) (by k_asm) (by k_asm) (by k_all) (by k_all) ?_; k_whole)); (try dsimp only [List.cons_append, List.nil_append]))
  k_with "mine.and" => (first | assumption | exact And.left (by assumption) | exact And.left (And.right (by assumption)) | exact And.right (by assumption) | exact And.left (And.right (And.right (by assumption))) | exact And.right (And.right (by assumption)) | exact And.left (And.right (And.right (And.right (by assumption)))) | exact And.right (And.right (And.right (by assumption))) | exact And.left (And.right (And.right (And.right (And.right (by assumption))))) | exact And.right (And.right (And.right (And.right (by assumption)))) | exact And.left (And.right (And.right (And.right (And.right (And.right (by assumption)))))) | exact And.right (And.right (And.right (And.right (And.right (by assumption))))) | exact And.left (And.right (And.right (And.right (And.right (And.right (And.right (by assumption))))))) | exact And.right (And.right (And.right (And.right (And.right (And.right (by assumption)))))) | exact And.left (And.right (And.right (And.right (And.right (And.right (And.right (And.right (by assumption)))))))) | exact And.right (And.right (And.right (And.right (And.right (And.right (And.right (by assumption))))))) | exact And.left (And.right (And.right (And.right (And.right (And.right (And.right (And.right (And.right (by assumption))))))))) | exact And.right (And.right (And.right (And.right (And.right (And.right (And.right (And.right (by assumption)))))))) | exact And.left (And.right (And.right (And.right (And.right (And.right (And.right (And.right (And.right (And.right (by assumption)))))))))) | exact And.right (And.right (And.right (And.right (And.right (And.right (And.right (And.right (And.right (by assumption))))))))) | exact And.left (And.right (And.right (And.right (And.right (And.right (And.right (And.right (And.right (And.right (And.right (by assumption))))))))))) | exact And.right (And.right (And.right (And.right (And.right (And.right (And.right (And.right (And.right (And.right (by assumption)))))))))) | exact And.left (And.right (And.right (And.right (And.right (And.right (And.right (And.right (And.right (And.right (And.right (And.right (by assumption)))))))))))) | exact And.right (And.right (And.right (And.right (And.right (And.right (And.right (And.right (And.right (And.right (And.right (by assumption))))))))))) | exact And.left (And.right (And.right (And.right (And.right (And.right (And.right (And.right (And.right (And.right (And.right (And.right (And.right (by assumption))))))))))))) | exact And.right (And.right (And.right (And.right (And.right (And.right (And.right (And.right (And.right (And.right (And.right (And.right (by assumption)))))))))))) | exact And.left (And.right (And.right (And.right (And.right (And.right (And.right (And.right (And.right (And.right (And.right (And.right (And.right (And.right (by assumption)))))))))))))) | exact And.right (And.right (And.right (And.right (And.right (And.right (And.right (And.right (And.right (And.right (And.right (And.right (And.right (by assumption))))))))))))) | exact And.left (And.right (And.right (And.right (And.right (And.right (And.right (And.right (And.right (And.right (And.right (And.right (And.right (And.right (And.right (by assumption))))))))))))))) | exact And.right (And.right (And.right (And.right (And.right (And.right (And.right (And.right (And.right (And.right (And.right (And.right (And.right (And.right (by assumption)))))))))))))) | exact And.left (And.right (And.right (And.right (And.right (And.right (And.right (And.right (And.right (And.right (And.right (And.right (And.right (And.right (And.right (And.right (by assumption)))))))))))))))) | exact And.right (And.right (And.right (And.right (And.right (And.right (And.right (And.right (And.right (And.right (And.right (And.right (And.right (And.right (And.right (by assumption))))))))))))))) | exact And.left (And.right (And.right (And.right (And.right (And.right (And.right (And.right (And.right (And.right (And.right (And.right (And.right (And.right (And.right (And.right (And.right (by assumption))))))))))))))))) | exact And.right (And.right (And.right (And.right (And.right (And.right (And.right (And.right (And.right (And.right (And.right (And.right (And.right (And.right (And.right (And.right (by assumption)))))))))))))))) | exact And.left (And.right (And.right (And.right (And.right (And.right (And.right (And.right (And.right (And.right (And.right (And.right (And.right (And.right (And.right (And.right (And.right (And.right (by assumption)))))))))))))))))) | exact And.right (And.right (And.right (And.right (And.right (And.right (And.right (And.right (And.right (And.right (And.right (And.right (And.right (And.right (And.right (And.right (And.right (by assumption))))))))))))))))))
  k_with "call builtin:len" => (k_here; (with_reducible show wpAny _ _ (call (Value.builtin _) [Value.ref _]) _ _ _); k_dflt (refine len_ints_fit (News.isList (by k_asm) (by k_mem)) (by with_reducible assumption) (by omega) ?_; k_whole))
  k_with "subscriptTail Name Constant ref int" => (k_here; k_dflt (first | ((with_reducible show wpAny _ _ (subscriptTail _ _ (Value.ref _) (Value.int 0 _)) _ _ _); refine row_get 0 (by k_asm) (by k_mem) (by with_reducible assumption) (by exact rfl) (by first | omega | l_fact) (by decide) ?_ (by with_unfolding_all rfl); k_whole) | ((with_reducible show wpAny _ _ (subscriptTail _ _ (Value.ref _) (Value.int 1 _)) _ _ _); refine row_get 1 (by k_asm) (by k_mem) (by with_reducible assumption) (by exact rfl) (by first | omega | l_fact) (by decide) ?_ (by with_unfolding_all rfl); k_whole) | ((with_reducible show wpAny _ _ (subscriptTail _ _ (Value.ref _) (Value.int 2 _)) _ _ _); refine row_get 2 (by k_asm) (by k_mem) (by with_reducible assumption) (by exact rfl) (by first | omega | l_fact) (by decide) ?_ (by with_unfolding_all rfl); k_whole) | ((with_reducible show wpAny _ _ (subscriptTail _ _ (Value.ref _) (Value.int 3 _)) _ _ _); refine row_get 3 (by k_asm) (by k_mem) (by with_reducible assumption) (by exact rfl) (by first | omega | l_fact) (by decide) ?_ (by with_unfolding_all rfl); k_whole)); intro _)
  k_with "subscriptTail Name Name ref int" => (k_here; k_dflt (first | ((with_reducible show wpAny _ _ (subscriptTail _ _ (Value.ref _) (Value.int _ _)) _ _ _); refine row_get 1 (by k_asm) (by k_mem) (by with_reducible assumption) (by exact rfl) (by first | omega | l_fact) (by decide) ?_ (by with_unfolding_all rfl); k_whole) | ((with_reducible show wpAny _ _ (subscriptTail _ _ (Value.ref _) (Value.int _ _)) _ _ _); refine row_get 2 (by k_asm) (by k_mem) (by with_reducible assumption) (by exact rfl) (by first | omega | l_fact) (by decide) ?_ (by with_unfolding_all rfl); k_whole) | ((with_reducible show wpAny _ _ (subscriptTail _ _ (Value.ref _) (Value.int _ _)) _ _ _); refine row_get 3 (by k_asm) (by k_mem) (by with_reducible assumption) (by exact rfl) (by first | omega | l_fact) (by decide) ?_ (by with_unfolding_all rfl); k_whole)); intro _)
  k_with "getItem ref int" => (k_here; (rename Obj.IsDictOf _ _ _ => dictLook); (try dsimp only at *); k_dflt (refine getItem_tab PyProof.V.same_int (intKind_is _ _ _ _) (by k_tabat) (by rfl) ?_; k_whole); intro _ hv'; dict_open hv')
  k_with "call ref" => (
    k_here
    (with_reducible show wpAny _ _ (call (Value.ref 118) [Value.int _ _]) _ _ _)
    k_dflt (refine con_app (by k_asm) (by k_asm) (by k_asm) (by k_asm) (by k_asm) (by first | exact rfl | assumption) (by ktr_room) (by ktr_units) (seconds_con _ _ _ _ _ _ _ (by assumption) (by assumption)) ?_)
    (try dsimp only)
    refine' ⟨?_, ?_, ?_, ?_, ?_⟩
    all_goals (intros; (with_reducible rename Fr _ _ _ _ ∧ News _ _ _ _ => hFN'); (obtain ⟨F', N'⟩ := hFN'); (try k_fold); (try k_sweep)))
  have h0 : 0 ≤ ns.getD 0 0 ∧ ns.getD 0 0 < 256 := by
    cases ns with
    | nil => simp at hl
    | cons x r => exact hb x (.head _)
  obtain ⟨h0a, h0b⟩ := h0
  dsimp only [Con]
  k_fill
  intro dp un gd cn cs a ccd cl outer A₀ base h₀ L m s Q E B F X N T hk hd hu hret
  refine wpAny_call ?_
  k_dflt cell_enter
  k_steps
  all_goals (
    obtain ⟨rN, rS⟩ := hret
    first
    | (refine rN ?_ _ _ ⟨by k_asm, by (first | k_asm | exact news_tl (by k_asm) | exact news_tl (news_tl (by k_asm)) | exact news_tl (news_tl (news_tl (by k_asm))) | exact news_tl (news_tl (news_tl (news_tl (by k_asm)))) | exact news_tl (news_tl (news_tl (news_tl (news_tl (by k_asm))))) | exact news_tl (news_tl (news_tl (news_tl (news_tl (news_tl (by k_asm)))))) | exact news_tl (news_tl (news_tl (news_tl (news_tl (news_tl (news_tl (by k_asm))))))) | exact news_tl (news_tl (news_tl (news_tl (news_tl (news_tl (news_tl (news_tl (by k_asm)))))))) | exact news_tl (news_tl (news_tl (news_tl (news_tl (news_tl (news_tl (news_tl (news_tl (by k_asm))))))))))⟩
       first
       | exact lcN (by assumption)
       | exact lcS (sec0 (by assumption)) (by omega) | exact lcS (sec1 (by assumption) (by assumption)) (by omega) | exact lcS (sec2 (by assumption) (by assumption)) (by omega) | exact lcS (sec3 (by assumption) (by assumption)) (by omega)
       | exact lc1b (by assumption) (by assumption) (by omega) | exact lc2b (by assumption) (by assumption) (by omega) | exact lc2c (by assumption) (by assumption) (by omega)
       | exact lc3b (by assumption) (by assumption) (by omega) | exact lc3c (by assumption) (by assumption) (by omega) | exact lc3d (by assumption) (by assumption) (by omega))
    | (refine rS _ _ _ _ ?_ ⟨by k_asm, by (first | k_asm | exact news_tl (by k_asm) | exact news_tl (news_tl (by k_asm)) | exact news_tl (news_tl (news_tl (by k_asm))) | exact news_tl (news_tl (news_tl (news_tl (by k_asm)))) | exact news_tl (news_tl (news_tl (news_tl (news_tl (by k_asm))))) | exact news_tl (news_tl (news_tl (news_tl (news_tl (news_tl (by k_asm)))))) | exact news_tl (news_tl (news_tl (news_tl (news_tl (news_tl (news_tl (by k_asm))))))) | exact news_tl (news_tl (news_tl (news_tl (news_tl (news_tl (news_tl (news_tl (by k_asm)))))))) | exact news_tl (news_tl (news_tl (news_tl (news_tl (news_tl (news_tl (news_tl (news_tl (by k_asm))))))))))⟩
       first
       | exact lc0 (by assumption) (by omega)
       | exact lc1o (by assumption) (by assumption) (by assumption) (by assumption) (by assumption)
       | exact lc2o (by assumption) (by assumption) (by assumption) (by assumption) (by assumption) (by assumption) (by assumption)
       | exact lc3o (by assumption) (by assumption) (by assumption) (by assumption) (by assumption) (by assumption) (by assumption) (by assumption) (by assumption))
    | (trace_state; w_report))

end

section
set_option maxRecDepth 100000 in
set_option maxHeartbeats 8000000 in
theorem lead_of_con (w : World) (mean : ExcName → Option Value) (mg mb : Str → Option Value) (news : List (Addr × Obj)) (x : Int) (tx : Tok) (h0 : 0 ≤ x) (h1 : x < 256) :
    Con w mean mg mb 76 [.int x tx] news 1 8 (fun G q =>
      (leadOf x = none → ∀ h' tk', G h' news → q .none h' tk') ∧
      (x < 128 → ∀ D t1 t2 n h' tk', G h' ((D, tup [.int 0 t1, .int x t2] n) :: news) → AllLt D news → q (.ref D) h' tk') ∧
      (192 ≤ x → x < 224 → ∀ D t1 t2 n h' tk', G h' ((D, tup [.int 1 t1, .int (x - 192) t2] n) :: news) → AllLt D news → q (.ref D) h' tk') ∧
      (224 ≤ x → x < 240 → ∀ D t1 t2 n h' tk', G h' ((D, tup [.int 2 t1, .int (x - 224) t2] n) :: news) → AllLt D news → q (.ref D) h' tk') ∧
      (240 ≤ x → x < 248 → ∀ D t1 t2 n h' tk', G h' ((D, tup [.int 3 t1, .int (x - 240) t2] n) :: news) → AllLt D news → q (.ref D) h' tk')) := by
  dsimp only [Con]
  k_fill
  intro dp un gd cn cs a ccd cl outer A₀ base h₀ L m s Q E B F X N T hk hd hu hret
  refine wpAny_call ?_
  k_dflt cell_enter
  k_steps
  all_goals (
    obtain ⟨r0, r1, r2, r3, r4⟩ := hret
    first
    | exact r0 (by unfold leadOf; (repeat' split) <;> first | rfl | omega) _ _ ⟨by k_asm, by k_asm⟩
    | exact r1 (by omega) _ _ _ _ _ _ ⟨by k_asm, by k_asm⟩ (allLt_of (by assumption))
    | exact r2 (by omega) (by omega) _ _ _ _ _ _ ⟨by k_asm, by k_asm⟩ (allLt_of (by assumption))
    | exact r3 (by omega) (by omega) _ _ _ _ _ _ ⟨by k_asm, by k_asm⟩ (allLt_of (by assumption))
    | exact r4 (by omega) (by omega) _ _ _ _ _ _ ⟨by k_asm, by k_asm⟩ (allLt_of (by assumption)))

set_option maxRecDepth 100000 in
set_option maxHeartbeats 8000000 in
theorem is_following_con (w : World) (mean : ExcName → Option Value) (mg mb : Str → Option Value) (news : List (Addr × Obj)) (x : Int) (tx : Tok) (h0 : 0 ≤ x) (h1 : x < 256) :
    Con w mean mg mb 83 [.int x tx] news 1 8 (fun G q => ∀ h' tk', G h' news → q (.bool (decide (128 ≤ x ∧ x < 192))) h' tk') := by
  dsimp only [Con]
  k_fill
  intro dp un gd cn cs a ccd cl outer A₀ base h₀ L m s Q E B F X N T hk hd hu hret
  refine wpAny_call ?_
  k_dflt cell_enter
  k_steps
  all_goals exact qv (hret _ _ ⟨by k_asm, by k_asm⟩) (congrArg Value.bool (by simp only [decide_eq_decide]; omega))

set_option maxRecDepth 100000 in
set_option maxHeartbeats 8000000 in
theorem is_bad_con (w : World) (mean : ExcName → Option Value) (mg mb : Str → Option Value) (news : List (Addr × Obj)) (x : Int) (tx : Tok) :
    Con w mean mg mb 55 [.int x tx] news 1 8 (fun G q => ∀ h' tk', G h' news → q (.bool (decide (55296 ≤ x ∧ x ≤ 57343))) h' tk') := by
  dsimp only [Con]
  k_fill
  intro dp un gd cn cs a ccd cl outer A₀ base h₀ L m s Q E B F X N T hk hd hu hret
  refine wpAny_call ?_
  k_dflt cell_enter
  k_steps
  all_goals exact qv (hret _ _ ⟨by k_asm, by k_asm⟩) (congrArg Value.bool (by simp only [decide_eq_decide]; omega))

end

section
/-! enumerate over a tuple: the iterator within is a tuple's -/
section
open Builtin
variable {prog : Program} {w : World} {A : Around} {E : Value → Shared → Prop} {s : Shared}

theorem tup_nextOf {it t : Addr} {i : Nat} {items : Array Value} {x : Value} {Q : Value → Shared → Prop} (hit : s.heap.IsTupleIter it t i) (ht : s.heap.IsTuple t items) (hx : items[i]? = some x)
    (hQ : ∀ h', h'.IsTupleIter it t (i + 1) → Heap.SameBut it s.heap h' → Q x { s with heap := h' }) : wpAny (model prog w) A (SmallTypes.nextOf (.ref it)) Q E s := by
  obtain ⟨oi, gi, ci, di⟩ := id hit
  obtain ⟨ot, gt, _, nt, dt⟩ := ht
  unfold SmallTypes.nextOf
  refine wpAny_bind (wpAny_callSpecial?_slot (name := Str.ofString "__next__") hit.typeIs F.slot_tuple_iterator_next (wpAny_call_entry F.slot_tuple_iterator_next hit.typeIs F.entry_tuple_iterator_next ?_ (F.args_tuple_iterator_next_1 _)))
  show wpAny _ _ (field (.ref it) 0 >>= _) _ _ s
  refine wpAny_bind (wpAny_field gi di (x := .ref t) rfl ?_)
  show wpAny _ _ (if (Value.ref t == Value.none) = true then _ else _) _ _ s
  rw [if_neg (by exact Bool.false_ne_true)]
  show wpAny _ _ (field (.ref it) 1 >>= _) _ _ s
  refine wpAny_bind (wpAny_field gi di (x := .int i 0) rfl ?_)
  show wpAny _ _ (seqItems? (.ref t) >>= _) _ _ s
  refine wpAny_bind (wpAny_seqItems gt dt ?_)
  simp only [Int.toNat_natCast, hx]
  refine wpAny_bind (wpAny_setField gi di (by simp) (wpAny_pure ⟨x, rfl, wpAny_pure (hQ _ ?_ (Heap.SameBut.update ..))⟩))
  refine ⟨_, Heap.get?_update_self _ gi (Obj.isFreed_of_fields (Obj.data_mapFields di _)), (Obj.cls_mapFields ..).trans ci, ?_⟩
  rw [Obj.data_mapFields di]
  simp [rawInt]

theorem tup_nextOf_end {it t : Addr} {i : Nat} {items : Array Value} {Q : Value → Shared → Prop} (hh : A.handled = none) (hit : s.heap.IsTupleIter it t i) (ht : s.heap.IsTuple t items) (hx : items[i]? = none)
    (hE : ∀ h' e, Heap.ExtBut it s.heap h' → (∃ o, h'.get? e = some o ∧ o.cls = .type "StopIteration") → E (.ref e) { s with heap := h' }) : wpAny (model prog w) A (SmallTypes.nextOf (.ref it)) Q E s := by
  obtain ⟨oi, gi, ci, di⟩ := id hit
  obtain ⟨ot, gt, _, nt, dt⟩ := ht
  unfold SmallTypes.nextOf
  refine wpAny_bind (wpAny_callSpecial?_slot (name := Str.ofString "__next__") hit.typeIs F.slot_tuple_iterator_next (wpAny_call_entry F.slot_tuple_iterator_next hit.typeIs F.entry_tuple_iterator_next ?_ (F.args_tuple_iterator_next_1 _)))
  show wpAny _ _ (field (.ref it) 0 >>= _) _ _ s
  refine wpAny_bind (wpAny_field gi di (x := .ref t) rfl ?_)
  show wpAny _ _ (if (Value.ref t == Value.none) = true then _ else _) _ _ s
  rw [if_neg (by exact Bool.false_ne_true)]
  show wpAny _ _ (field (.ref it) 1 >>= _) _ _ s
  refine wpAny_bind (wpAny_field gi di (x := .int i 0) rfl ?_)
  show wpAny _ _ (seqItems? (.ref t) >>= _) _ _ s
  refine wpAny_bind (wpAny_seqItems gt dt ?_)
  simp only [Int.toNat_natCast, hx]
  refine wpAny_bind (wpAny_rule (wpAny_bind (wpAny_setField gi di (by simp) ?_)))
  show wpAny _ _ (newExc (.type "StopIteration") [] >>= _) _ _ _
  refine wpAny_bind ?_
  simp only [newExc, newTuple]
  refine wpAny_bind (wpAny_newObj_type ?_ (by size_fits))
  refine wpAny_bind (m := firstArgMember _ _) (wpAny_of_eq (a := Value.none) (by first | rfl | (simp only [firstArgMember]; rfl)) ?_)
  refine wpAny_newObj_type ?_ (by size_fits)
  simp only [raiseNew]
  refine wpAny_bind (wpAny_handled ?_)
  first | rw [show A.in1.handled = none from hh] | rw [hh]
  exact wpAny_bind (wpAny_pure (wpAny_throw (hE _ _ (((Heap.SameBut.update ..).extBut.push _).push _) ⟨_, Heap.get?_push_size _ rfl, rfl⟩)))

/-- one step of enumerate, whatever the iterator within is: what its own step leaves of the heap is all that is asked -/
theorem enum_step {e it : Addr} {i : Nat} {x old : Value} {St : Heap → Prop} {Q : Value → Shared → Prop} (he : IsEnum s.heap e it i old) (hei : e ≠ it)
    (hn : ∀ (Q' : Value → Shared → Prop), (∀ h', St h' → Heap.SameBut it s.heap h' → Q' x { s with heap := h' }) → wpAny (model prog w) A (SmallTypes.nextOf (.ref it)) Q' E s)
    (hf : ∀ h h', St h → (∀ b o, b ≠ e → h.get? b = some o → h'.get? b = some o) → St h')
    (hQ : ∀ h', IsEnumOut h' e it ((i : Int) + 1) x s.heap.objs.size → St h' → h'.get? s.heap.objs.size = some { cls := .type "tuple", data := .seq #[.int i s.toks, x] } →
      (∀ b o, b ≠ e → b ≠ it → s.heap.get? b = some o → h'.get? b = some o) → Q (.ref s.heap.objs.size) { s with heap := h', toks := s.toks + 1 }) :
    wpAny (model prog w) A (Builtin.«enumerate.__next__» ⟨[.ref e], []⟩) (fun fin s' => ∃ v, fin = .done (.ret v) ∧ Q v s') E s := by
  obtain ⟨hp, g, d, tk, os⟩ := s
  show wpAny _ _ (field (.ref e) 2 >>= _) _ _ _
  refine wpAny_bind (wpAny_field he rfl (x := .ref it) rfl ?_)
  refine wpAny_bind (hn _ fun h₁ st₁ hs₁ => ?_)
  replace hs₁ : Heap.SameBut it hp h₁ := hs₁
  have e₁ : IsEnum h₁ e it i old := (hs₁.2 e hei).trans he
  show wpAny _ _ (field (.ref e) 3 >>= _) _ _ ⟨h₁, g, d, tk, os⟩
  refine wpAny_bind (wpAny_field e₁ rfl (x := rawInt i) rfl ?_)
  show wpAny _ _ (field (.ref e) 4 >>= _) _ _ ⟨h₁, g, d, tk, os⟩
  refine wpAny_bind (wpAny_field e₁ rfl (x := .none) rfl ?_)
  show wpAny _ _ (mkInt i >>= _) _ _ ⟨h₁, g, d, tk, os⟩
  refine wpAny_bind (wpAny_mkInt ?_)
  show wpAny _ _ (setField (.ref e) 3 (rawInt ((i : Int) + 1)) >>= _) _ _ ⟨h₁, g, d, tk + 1, os⟩
  refine wpAny_bind (wpAny_setField_rec e₁ (by simp) fun h₂ e₂ s₂ => ?_)
  replace s₂ : Heap.SameBut e h₁ h₂ := s₂
  replace e₂ : IsEnum h₂ e it ((i : Int) + 1) old := e₂
  show wpAny _ _ (setField (.ref e) 4 .none >>= _) _ _ ⟨h₂, g, d, tk + 1, os⟩
  refine wpAny_bind (wpAny_setField_rec e₂ (by simp) fun h₃ e₃ s₃ => ?_)
  replace s₃ : Heap.SameBut e h₂ h₃ := s₃
  replace e₃ : IsEnum h₃ e it ((i : Int) + 1) old := e₃
  show wpAny _ _ (newTuple [.int i tk, x] >>= _) _ _ ⟨h₃, g, d, tk + 1, os⟩
  have z₃ : h₃.objs.size = hp.objs.size := by rw [s₃.1, s₂.1, hs₁.1]
  have el : e < hp.objs.size := Heap.lt_size he
  refine wpAny_bind (wpAny_newTuple ?_)
  generalize q₄ : h₃.push { cls := .type "tuple", data := .seq #[.int i tk, x] } = h₄
  have e₄ : IsEnum h₄ e it ((i : Int) + 1) old := by rw [← q₄]; exact Heap.get?_push_of_some _ e₃
  have t₄ : h₄.get? hp.objs.size = some { cls := .type "tuple", data := .seq #[.int i tk, x] } := by rw [← q₄, ← z₃]; exact Heap.get?_push_size _ rfl
  have k₄ : ∀ b o, b ≠ e → h₁.get? b = some o → h₄.get? b = some o := fun b o hb y => by
    rw [← q₄]; exact Heap.get?_push_of_some _ (s₃.extBut b o hb (s₂.extBut b o hb y))
  show wpAny _ _ (SmallTypes.ownedTupleIsFree (.ref e) >>= _) _ _ ⟨h₄, g, d, tk + 1, os⟩
  rw [z₃]
  refine wpAny_bind ?_
  unfold SmallTypes.ownedTupleIsFree
  refine wpAny_bind (wpAny_field e₄ rfl (x := .none) rfl (wpAny_pure ?_))
  simp only [if_true]
  refine wpAny_bind (wpAny_rule (wpAny_bind (wpAny_field e₄ rfl (x := old) rfl ?_)))
  refine wpAny_bind (wpAny_setField_rec e₄ (by simp) fun h₅ e₅ s₅ => ?_)
  replace s₅ : Heap.SameBut e h₄ h₅ := s₅
  replace e₅ : IsEnum h₅ e it ((i : Int) + 1) x := e₅
  show wpAny _ _ (SmallTypes.ownedTupleHandOut (.ref e) (.ref hp.objs.size) >>= _) _ _ ⟨h₅, g, d, tk + 1, os⟩
  refine wpAny_bind ?_
  unfold SmallTypes.ownedTupleHandOut
  refine wpAny_bind (wpAny_setField_rec e₅ (by simp) fun h₆ e₆ s₆ => ?_)
  replace s₆ : Heap.SameBut e h₅ h₆ := s₆
  replace e₆ : IsEnumOut h₆ e it ((i : Int) + 1) x hp.objs.size := e₆
  refine wpAny_setField_rec e₆ (by simp) fun h₇ e₇ s₇ => ?_
  replace s₇ : Heap.SameBut e h₆ h₇ := s₇
  replace e₇ : IsEnumOut h₇ e it ((i : Int) + 1) x hp.objs.size := e₇
  have k₇ : ∀ b o, b ≠ e → h₄.get? b = some o → h₇.get? b = some o := fun b o hb y => s₇.extBut b o hb (s₆.extBut b o hb (s₅.extBut b o hb y))
  exact wpAny_bind (wpAny_letGo (wpAny_pure ⟨_, rfl, hQ h₇ e₇ (hf _ _ st₁ fun b o hb y => k₇ b o hb (k₄ b o hb y)) (k₇ _ _ (Nat.ne_of_gt el) t₄) fun b o h1 h2 y => k₇ b o h1 (k₄ b o h1 (hs₁.extBut b o h2 y))⟩))

theorem enumT_walks (hh : A.handled = none) (e it l : Addr) (hei : e ≠ it) (hle : l ≠ e) (hli : l ≠ it) (items : Array Value) :
    WalksU prog w A e [e, it, l] [e, it] items.size (fun i vals => ∃ t x, items[i]? = some x ∧ vals = #[.int i t, x])
      (fun i h => (∃ old, IsEnum h e it i old) ∧ h.IsTupleIter it l i ∧ h.IsTuple l items)
      (fun i T h => (∃ x, IsEnumOut h e it ((i : Int) + 1) x T) ∧ h.IsTupleIter it l (i + 1) ∧ h.IsTuple l items ∧ T ≠ e ∧ T ≠ it) where
  sub := fun b hb => by simp at hb ⊢; rcases hb with rfl | rfl <;> simp
  frame := fun i h h' st hk => ⟨st.1.imp fun _ y => hk e (by simp) _ y, st.2.1.at fun o y => hk it (by simp) o y, st.2.2.at fun o y => hk l (by simp) o y⟩
  item := fun i s Q E hi st hQ => by
    obtain ⟨⟨old, he⟩, hit, ht⟩ := st
    have hT : s.TypeIs (.ref e) "enumerate" := ⟨_, he, rfl⟩
    have hx : items[i]? = some items[i] := Array.getElem?_eq_getElem hi
    have el : e < s.heap.objs.size := Heap.lt_size he
    have il : it < s.heap.objs.size := by obtain ⟨_, y, _⟩ := hit; exact Heap.lt_size y
    unfold pyNext
    refine wpAny_bind (wpAny_attempt (wpAny_callSpecial?_slot (name := Str.ofString "__next__") hT F.slot_enumerate_next (wpAny_call_entry F.slot_enumerate_next hT F.entry_enumerate_next
      (enum_step (St := fun h => h.IsTupleIter it l (i + 1) ∧ h.IsTuple l items) he hei (fun Q' k => tup_nextOf hit ht hx fun h' a b => k h' ⟨a, ht.extBut b.extBut hli⟩ b) (fun h h' a b => ⟨a.1.at fun o y => b it o hei.symm y, a.2.at fun o y => b l o hle y⟩)
        fun h' a b c k => wpAny_pure (hQ s.heap.objs.size #[.int i s.toks, items[i]] h' (s.toks + 1) ⟨_, _, hx, rfl⟩ ⟨_, c, rfl, _, rfl⟩ ⟨⟨_, a⟩, b.1, b.2, Nat.ne_of_gt el, Nat.ne_of_gt il⟩ fun b o hb y => k b o (fun q => hb (by simp [q])) (fun q => hb (by simp [q])) y)) (F.args_enumerate_next_1 _))))
  go := fun elts k pos i T s Q E hm hQ => by
    obtain ⟨⟨x, ho⟩, hit, ht, a, b⟩ := hm
    exact wpAny_letOwnedTupleGo_enum ho fun h' he' hs' => hQ h' ⟨⟨x, by simpa using he'⟩, hit.at fun o y => (hs'.2 it hei.symm).trans y, ht.at fun o y => (hs'.2 l hle).trans y⟩ fun b o hb y => (hs'.2 b fun q => hb (by simp [q])).trans y
  apart := fun i T h hm hT => by
    obtain ⟨_, _, _, a, b⟩ := hm
    simp at hT
    rcases hT with q | q
    · exact a q
    · exact b q
  done := fun s Q E st hQ => by
    obtain ⟨⟨old, he⟩, hit, ht⟩ := st
    have hT : s.TypeIs (.ref e) "enumerate" := ⟨_, he, rfl⟩
    unfold pyNext
    refine wpAny_bind (wpAny_attempt (wpAny_callSpecial?_slot (name := Str.ofString "__next__") hT F.slot_enumerate_next (wpAny_call_entry F.slot_enumerate_next hT F.entry_enumerate_next ?_ (F.args_enumerate_next_1 _))))
    show wpAny _ _ (field (.ref e) 2 >>= _) _ _ _
    refine wpAny_bind (wpAny_field he rfl (x := .ref it) rfl (wpAny_bind (tup_nextOf_end hh hit ht (Array.getElem?_eq_none (Nat.le_refl _)) fun h' x hx hc => ?_)))
    obtain ⟨o, ho, hc⟩ := hc
    refine wpAny_bind (wpAny_isInstance (T := "StopIteration") (b := true) ⟨o, ho, hc⟩ isSubtype_stop ?_)
    exact wpAny_pure (hQ h' s.toks fun b o hb y => hx b o (fun q => hb (by simp [q])) y)
  self := fun i s Q E st hQ => let ⟨⟨_, he⟩, _, _⟩ := st; wpAny_pyIter_enum he hQ

theorem meets_enumT (l : Addr) (items : Array Value) (n : Nat) (dct : Option Addr) (sl : Array (Option Value)) :
    Meets (Builtin.«enumerate.__new__» ⟨[.type "enumerate", .ref l], []⟩) (fun _ R s => s.heap.get? l = some { cls := .type "tuple", dict := dct, data := .seq items n, slots := sl } ∧
      R (.ok (.ret (.ref (s.heap.push { cls := .type "tuple_iterator", data := .fields #[.ref l, .int 0 0] }).objs.size)))
        { s with heap := (s.heap.push { cls := .type "tuple_iterator", data := .fields #[.ref l, .int 0 0] }).push { cls := .type "enumerate", data := .fields #[.none, .bool false, .ref s.heap.objs.size, rawInt 0, .none, .none] } }) :=
  .of_wp fun prog w A R s h => by
    obtain ⟨hp, g, d, tk, os⟩ := s
    obtain ⟨hl, h⟩ := h
    have hsub := sub_enumerate
    have hT : Heap.IsTuple (Shared.heap ⟨hp, g, d, tk, os⟩) l items := ⟨_, hl, rfl, n, rfl⟩
    wp_walk using AutoSeq1.wpAny_loadPart' hl
    refine wpAny_stack_any fun st => wpAny_pure ?_
    split
    · rename_i c _ _ _ _ _
      cases (c == Value.type "enumerate") <;> (wp_walk using AutoSeq1.wpAny_loadPart' hl, wpAny_pyIter_tuple hT) <;> exact ⟨_, rfl, h⟩
    · wp_walk using AutoSeq1.wpAny_loadPart' hl, wpAny_pyIter_tuple hT
      exact ⟨_, rfl, h⟩

theorem call_enumT {l : Addr} {items : Array Value} {Q : Value → Shared → Prop} (hL : s.heap.IsTuple l items)
    (h : ∀ h', IsEnum h' (s.heap.objs.size + 1) s.heap.objs.size 0 .none → h'.IsTupleIter s.heap.objs.size l 0 → (∀ b o, s.heap.get? b = some o → h'.get? b = some o) → Q (.ref (s.heap.objs.size + 1)) { s with heap := h' }) :
    wpAny (model prog w) A (call (.type "enumerate") [.ref l]) Q E s := by
  obtain ⟨⟨c, dct, dt, sl⟩, hl, hc, n, hd⟩ := hL
  replace hc : c = .type "tuple" := hc
  replace hd : dt = .seq items n := hd
  subst hc hd
  refine callType_new F.called_enumerate (by decide) (F.typeCall_enumerate_1 _) (F.newCall_enumerate_1 _) (fun obj => F.args_object_init_2 obj _) F.entry_enumerate_new (meets_enumT l items n dct sl) ⟨hl, ?_⟩
  have hz : (s.heap.push { cls := .type "tuple_iterator", data := .fields #[.ref l, .int 0 0] }).objs.size = s.heap.objs.size + 1 := Heap.size_push ..
  show _ ∧ _
  rw [hz]
  have he : IsEnum ((s.heap.push { cls := .type "tuple_iterator", data := .fields #[.ref l, .int 0 0] }).push { cls := .type "enumerate", data := .fields #[.none, .bool false, .ref s.heap.objs.size, rawInt 0, .none, .none] }) (s.heap.objs.size + 1) s.heap.objs.size 0 .none := by
    have := Heap.get?_push_size (s.heap.push { cls := .type "tuple_iterator", data := .fields #[.ref l, .int 0 0] }) (o := { cls := .type "enumerate", data := .fields #[.none, .bool false, .ref s.heap.objs.size, rawInt 0, .none, .none] }) rfl
    rw [hz] at this; exact this
  exact ⟨⟨_, he, rfl⟩, h _ he ⟨_, Heap.get?_push_of_some _ (Heap.get?_push_size _ rfl), rfl, rfl⟩ fun b o x => Heap.get?_push_of_some _ (Heap.get?_push_of_some _ x)⟩
end

section
variable {prog : Program} {w : World} {A : Around} {E : Value → Shared → Prop} {s : Shared} {env : Env} {h₀ : Heap} {body : List Stmt} {Q : Flow → Shared → Prop} {K : Frag}
theorem enum_ground {elts : List PySem.Expr} {k : Nat} {pos : Pos} {l : Addr} {lo : Obj} {vs : List Value} {xs : List Itm} {n : Nat} {m₀ : Str → Option Value} {news : List (Addr × Obj)}
    (hh : A.handled = none) (F : Fr h₀ env.locals s.heap m₀) (N : News h₀ env.locals s.heap news) (X₀ : K.In h₀) (hk : K.lookup l = some lo) (hc : lo.cls = .type "tuple") (hd : lo.data = .seq vs.toArray n) (hx : enumItems 0 vs = xs)
    (rest₀ : ∀ I : Addr, (∀ p ∈ news, p.1 < I) → ItemsRest prog w A E h₀ env (.Tuple elts k pos) body Q s [(I + 1, "enumerate"), (I, "tuple_iterator")] [] xs m₀ news) :
    wpAny (model prog w) A (call (.type "enumerate") [.ref l]) (fun xv s₁ => wpAny (model prog w) A (pyIter xv) (fun it s₂ => TurnsAt prog w A h₀ env (.Tuple elts k pos) body Q E it s₂) E s₁) E s := by
  subst hx
  have hg : h₀.get? l = some lo := X₀ _ _ hk
  have hax : s.heap.get? l = some lo := F.keep _ _ hg
  have hl : s.heap.IsTuple l vs.toArray := ⟨lo, hax, hc, n, hd⟩
  have hlt : l < s.heap.objs.size := Heap.lt_size hax
  have hLs : env.locals < s.heap.objs.size := F.ns.lt
  refine call_enumT hl fun h' hE hI hk => ?_
  refine wpAny_pyIter_enum hE ?_
  refine ktg_core (tk0 := s.toks) (keep := []) (KTurns.ofWalksU (enumT_walks hh (s.heap.objs.size + 1) s.heap.objs.size l (Nat.succ_ne_self _) (ktu_ne 1 hlt) (Nat.ne_of_lt hlt) vs.toArray)) (by simp [enumItems_length]) ?_ ?_ ?_ ?_ ?_ ?_ ?_ ?_ (F.keeps hk) (N.grown hk) trivial (rest₀ _ fun p hp => Heap.lt_size (N p hp).1)
  · rintro i v h ⟨T, vals, rfl, ⟨t, x, hx, rfl⟩, hT⟩
    refine ⟨_, enumItems_get vs 0 i (v := x) (by simpa using hx), T, t, rfl, ?_⟩
    show IsTup h T #[.int ((0 + i : Nat) : Int) t, x]
    rw [Nat.zero_add]
    exact hT
  · rintro i h ⟨⟨old, he⟩, ⟨oi, hoi, hic, _⟩, _⟩
    have he' : ∃ oe : Obj, h.get? (s.heap.objs.size + 1) = some oe ∧ oe.cls = .type "enumerate" := ⟨_, he, rfl⟩
    obtain ⟨oe, h1, h2⟩ := he'
    refine ⟨[(s.heap.objs.size + 1, oe), (s.heap.objs.size, oi)], ⟨⟨rfl, h2⟩, ⟨rfl, hic⟩, trivial⟩, fun p hp => ?_⟩
    rcases List.mem_cons.mp hp with rfl | hp
    · exact h1
    · rw [List.mem_singleton.mp hp]; exact hoi
  · intro b hb
    have hb' : b = s.heap.objs.size + 1 ∨ b = s.heap.objs.size := by simpa using hb
    rcases hb' with rfl | rfl
    · exact ⟨by simp, ktu_new F (Nat.le_add_right _ _)⟩
    · exact ⟨by simp, ktu_new F (Nat.le_refl _)⟩
  · intro b hb
    simpa using hb
  · intro b hb
    have hb' : b = s.heap.objs.size + 1 ∨ b = s.heap.objs.size ∨ b = l := by simpa using hb
    rcases hb' with rfl | rfl | rfl
    · exact .inl (by simp)
    · exact .inl (by simp)
    · exact .inr (.inr ⟨lo, hg⟩)
  · intro hI'
    have hb' : env.locals = s.heap.objs.size + 1 ∨ env.locals = s.heap.objs.size ∨ env.locals = l := by simpa using hI'
    rcases hb' with e | e | e
    · exact ktu_ne 1 hLs e
    · exact Nat.ne_of_lt hLs e
    · exact absurd (Heap.lt_size hg) (Nat.not_lt.mpr (e ▸ F.above))
  · intro p hp hI'
    have hb' : p.1 = s.heap.objs.size + 1 ∨ p.1 = s.heap.objs.size := by simpa using hI'
    have hlp := Heap.lt_size (N p hp).1
    rcases hb' with e | e
    · exact ktu_ne 1 hlp e
    · exact Nat.ne_of_lt hlp e
  · exact ⟨⟨.none, hE⟩, hI, hl.at fun o e => hk l o e⟩
end
theorem unrEndW_two {h₀ : Heap} {L I : Addr} {o1 o2 : Obj} {rest : (Str → Option Value) → List (Addr × Obj) → Prop} {s₁ : Shared} {h' : Heap} {tk : Nat} {m' : Str → Option Value} {post : List (Addr × Obj)}
    (F : Fr h₀ L h' m') (N : News h₀ L h' ((I + 1, o1) :: (I, o2) :: post)) (lt : ∀ p ∈ post, p.1 < I) (r : rest m' post) : UnrEndW h₀ L s₁ [(I + 1, o1), (I, o2)] rest { s₁ with heap := h', toks := tk } :=
  ⟨h', tk, m', post, rfl, F, N, fun p hp q hq => by
    have := lt p hp
    simp only [List.mem_cons, List.not_mem_nil, or_false] at hq
    rcases hq with rfl | rfl
    · exact Nat.ne_of_lt (Nat.lt_succ_of_lt this)
    · exact Nat.ne_of_lt this, r⟩

end

section
set_option maxRecDepth 100000 in
set_option maxHeartbeats 8000000 in
theorem size_of_code_con (w : World) (mean : ExcName → Option Value) (mg mb : Str → Option Value) (news : List (Addr × Obj)) (x : Int) (tx : Tok) (h0 : -1 ≤ x) (h1 : x < 1114112) :
    Con w mean mg mb 62 [.int x tx] news 1 8 (fun G q => ∀ t h' tk', G h' news → q (.int (sizeOf' x) t) h' tk') := by
  w_top off
  k_with_none
  k_with "UnrEnd" => ((first
    | (refine unrEnd_mid (pre := []) (by k_asm) (by k_asm) (by k_all) (by k_all) ?_; k_whole)
    | (refine unrEnd_mid (pre := [_]) (by k_asm) (by k_asm) (by k_all) (by k_all) ?_; k_whole)
    | (refine unrEnd_mid (pre := [_, _]) (by k_asm) (by k_asm) (by k_all) (by k_all) ?_; k_whole)
    | (refine unrEnd_mid (pre := [_, _, _]) (by k_asm) (by k_asm) (by k_all) (by k_all) ?_; k_whole)
    | (refine unrEnd_mid (pre := [_, _, _, _]) (by k_asm) (by k_asm) (by k_all) (by k_all) ?_; k_whole)); (try dsimp only [List.cons_append, List.nil_append]))
  k_with "mine.and" => (first | assumption | exact And.left (by assumption) | exact And.left (And.right (by assumption)) | exact And.right (by assumption) | exact And.left (And.right (And.right (by assumption))) | exact And.right (And.right (by assumption)) | exact And.left (And.right (And.right (And.right (by assumption)))) | exact And.right (And.right (And.right (by assumption))) | exact And.left (And.right (And.right (And.right (And.right (by assumption))))) | exact And.right (And.right (And.right (And.right (by assumption)))) | exact And.left (And.right (And.right (And.right (And.right (And.right (by assumption)))))) | exact And.right (And.right (And.right (And.right (And.right (by assumption))))) | exact And.left (And.right (And.right (And.right (And.right (And.right (And.right (by assumption))))))) | exact And.right (And.right (And.right (And.right (And.right (And.right (by assumption)))))) | exact And.left (And.right (And.right (And.right (And.right (And.right (And.right (And.right (by assumption)))))))) | exact And.right (And.right (And.right (And.right (And.right (And.right (And.right (by assumption))))))) | exact And.left (And.right (And.right (And.right (And.right (And.right (And.right (And.right (And.right (by assumption))))))))) | exact And.right (And.right (And.right (And.right (And.right (And.right (And.right (And.right (by assumption)))))))) | exact And.left (And.right (And.right (And.right (And.right (And.right (And.right (And.right (And.right (And.right (by assumption)))))))))) | exact And.right (And.right (And.right (And.right (And.right (And.right (And.right (And.right (And.right (by assumption))))))))) | exact And.left (And.right (And.right (And.right (And.right (And.right (And.right (And.right (And.right (And.right (And.right (by assumption))))))))))) | exact And.right (And.right (And.right (And.right (And.right (And.right (And.right (And.right (And.right (And.right (by assumption)))))))))) | exact And.left (And.right (And.right (And.right (And.right (And.right (And.right (And.right (And.right (And.right (And.right (And.right (by assumption)))))))))))) | exact And.right (And.right (And.right (And.right (And.right (And.right (And.right (And.right (And.right (And.right (And.right (by assumption))))))))))) | exact And.left (And.right (And.right (And.right (And.right (And.right (And.right (And.right (And.right (And.right (And.right (And.right (And.right (by assumption))))))))))))) | exact And.right (And.right (And.right (And.right (And.right (And.right (And.right (And.right (And.right (And.right (And.right (And.right (by assumption)))))))))))) | exact And.left (And.right (And.right (And.right (And.right (And.right (And.right (And.right (And.right (And.right (And.right (And.right (And.right (And.right (by assumption)))))))))))))) | exact And.right (And.right (And.right (And.right (And.right (And.right (And.right (And.right (And.right (And.right (And.right (And.right (And.right (by assumption))))))))))))) | exact And.left (And.right (And.right (And.right (And.right (And.right (And.right (And.right (And.right (And.right (And.right (And.right (And.right (And.right (And.right (by assumption))))))))))))))) | exact And.right (And.right (And.right (And.right (And.right (And.right (And.right (And.right (And.right (And.right (And.right (And.right (And.right (And.right (by assumption)))))))))))))) | exact And.left (And.right (And.right (And.right (And.right (And.right (And.right (And.right (And.right (And.right (And.right (And.right (And.right (And.right (And.right (And.right (by assumption)))))))))))))))) | exact And.right (And.right (And.right (And.right (And.right (And.right (And.right (And.right (And.right (And.right (And.right (And.right (And.right (And.right (And.right (by assumption))))))))))))))) | exact And.left (And.right (And.right (And.right (And.right (And.right (And.right (And.right (And.right (And.right (And.right (And.right (And.right (And.right (And.right (And.right (And.right (by assumption))))))))))))))))) | exact And.right (And.right (And.right (And.right (And.right (And.right (And.right (And.right (And.right (And.right (And.right (And.right (And.right (And.right (And.right (And.right (by assumption)))))))))))))))) | exact And.left (And.right (And.right (And.right (And.right (And.right (And.right (And.right (And.right (And.right (And.right (And.right (And.right (And.right (And.right (And.right (And.right (And.right (by assumption)))))))))))))))))) | exact And.right (And.right (And.right (And.right (And.right (And.right (And.right (And.right (And.right (And.right (And.right (And.right (And.right (And.right (And.right (And.right (And.right (by assumption))))))))))))))))))
  k_with "exec For Tuple Call cons nil" => (k_here; (rename Fr _ _ _ _ => lF'); (with_unfolding_all refine' For_turns lF' ?_; k_whole))
  k_with "call type:enumerate" => (k_here; (with_reducible show wpAny _ _ (call (Value.type _) [Value.ref _]) (fun xv s₁ => wpAny _ _ (pyIter xv) (fun it s₂ => TurnsAt _ _ _ _ _ _ _ _ _ it s₂) _ s₁) _ _); (with_unfolding_all refine enum_ground (xs := [Itm.pair (fun t => Value.int 0 t) _, Itm.pair (fun t => Value.int 1 t) _, Itm.pair (fun t => Value.int 2 t) _, Itm.pair (fun t => Value.int 3 t) _]) (by with_unfolding_all rfl) (by k_asm) (by k_asm) (by k_asm) (by k_is) (by exact rfl) (by exact rfl) (by exact rfl) ?_; k_whole); intro i' l1; (try k_lt l1))
  k_with "UnrEndW" => ((refine unrEndW_two (by k_asm) (by k_asm) (by assumption) ⟨trivial, ?_⟩; k_whole))
  dsimp only [Con]
  k_fill
  intro dp un gd cn cs a ccd cl outer A₀ base h₀ L m s Q E B F X N T hk hd hu hret
  refine wpAny_call ?_
  k_dflt cell_enter
  k_steps
  all_goals first
    | exact qv (hret _ _ _ ⟨by k_asm, by (first | k_asm | exact news_tl (by k_asm) | exact news_tl (news_tl (by k_asm)) | exact news_tl (news_tl (news_tl (by k_asm))) | exact news_tl (news_tl (news_tl (news_tl (by k_asm)))) | exact news_tl (news_tl (news_tl (news_tl (news_tl (by k_asm))))) | exact news_tl (news_tl (news_tl (news_tl (news_tl (news_tl (by k_asm)))))) | exact news_tl (news_tl (news_tl (news_tl (news_tl (news_tl (news_tl (by k_asm))))))) | exact news_tl (news_tl (news_tl (news_tl (news_tl (news_tl (news_tl (news_tl (by k_asm)))))))) | exact news_tl (news_tl (news_tl (news_tl (news_tl (news_tl (news_tl (news_tl (news_tl (by k_asm))))))))))⟩) (congrArg (fun i => Value.int i _) (by unfold sizeOf'; (repeat' split) <;> omega))
    | (trace_state; w_report)

end

section
def foll (b : Int) : Bool := decide (128 ≤ b ∧ b < 192)
def fin' (k : Int) (c : Int) : Option Int := if 1114111 < c then none else if decide (55296 ≤ c ∧ c ≤ 57343) then none else if sizeOf' c ≠ k + 1 then none else some c
def wholeAt (ks : List Int) (p : Nat) : Option Int :=
  match leadOf (ks.getD p 0) with
  | none => none
  | some (k, c) =>
    if (ks.length : Int) ≤ p + k then none
    else if k = 0 then fin' 0 c
    else if k = 1 then (if foll (ks.getD (p + 1) 0) then fin' 1 (c * 64 + ks.getD (p + 1) 0 - 128) else none)
    else if k = 2 then (if foll (ks.getD (p + 1) 0) && foll (ks.getD (p + 2) 0) then fin' 2 ((c * 64 + ks.getD (p + 1) 0 - 128) * 64 + ks.getD (p + 2) 0 - 128) else none)
    else (if foll (ks.getD (p + 1) 0) && foll (ks.getD (p + 2) 0) && foll (ks.getD (p + 3) 0) then fin' 3 (((c * 64 + ks.getD (p + 1) 0 - 128) * 64 + ks.getD (p + 2) 0 - 128) * 64 + ks.getD (p + 3) 0 - 128) else none)
section
variable {prog : Program} {w : World} {A : Around} {E : Value → Shared → Prop} {s : Shared}
theorem oct_get0 {b : Array UInt8} {t ui : Tok} {ks : List Int} {value slice : PySem.Expr} {p : Nat} {Q : Value → Shared → Prop} (hk : KBw.bInts b = ks) (hfit : ks.length ≤ 1000) (hl : p < ks.length)
    (h : ∀ t' k, 0 ≤ ks.getD p 0 → ks.getD p 0 < 256 → Q (.int (ks.getD p 0) t') { s with toks := k })
    (hs : subscripted slice false (.bytes b t) (.int (p : Int) ui) = operate [.bytes b t, .int (p : Int) ui] (getItem (.bytes b t) (.int (p : Int) ui)))
    (ht : ∀ r, letTemporaryGo value (.bytes b t) r = pure ()) : wpAny (model prog w) A (subscriptTail value slice (.bytes b t) (.int (p : Int) ui)) Q E s := by
  refine KBw.item_K hk (by omega) (by omega) (by omega) (fun t' k => ?_) hs ht
  rw [Int.toNat_natCast]
  exact h t' k
theorem oct_getS0 {b : Array UInt8} {t ui : Tok} {ks : List Int} {value slice : PySem.Expr} {p : Nat} {Q : Value → Shared → Prop} (hk : KBw.bInts b = ks) (hfit : ks.length ≤ 1000) (hl : p + 1 < ks.length)
    (h : ∀ t' k, 0 ≤ ks.getD (p + 1) 0 → ks.getD (p + 1) 0 < 256 → Q (.int (ks.getD (p + 1) 0) t') { s with toks := k })
    (hs : subscripted slice false (.bytes b t) (.int ((p : Int) + 1 + ((0 : Nat) : Int)) ui) = operate [.bytes b t, .int ((p : Int) + 1 + ((0 : Nat) : Int)) ui] (getItem (.bytes b t) (.int ((p : Int) + 1 + ((0 : Nat) : Int)) ui)))
    (ht : ∀ r, letTemporaryGo value (.bytes b t) r = pure ()) : wpAny (model prog w) A (subscriptTail value slice (.bytes b t) (.int ((p : Int) + 1 + ((0 : Nat) : Int)) ui)) Q E s := by
  refine KBw.item_K hk (by omega) (by omega) (by omega) (fun t' k => ?_) hs ht
  have e : ((p : Int) + 1 + ((0 : Nat) : Int)).toNat = p + 1 := by omega
  rw [e]
  exact h t' k
theorem oct_getS1 {b : Array UInt8} {t ui : Tok} {ks : List Int} {value slice : PySem.Expr} {p : Nat} {Q : Value → Shared → Prop} (hk : KBw.bInts b = ks) (hfit : ks.length ≤ 1000) (hl : p + 2 < ks.length)
    (h : ∀ t' k, 0 ≤ ks.getD (p + 2) 0 → ks.getD (p + 2) 0 < 256 → Q (.int (ks.getD (p + 2) 0) t') { s with toks := k })
    (hs : subscripted slice false (.bytes b t) (.int ((p : Int) + 1 + ((1 : Nat) : Int)) ui) = operate [.bytes b t, .int ((p : Int) + 1 + ((1 : Nat) : Int)) ui] (getItem (.bytes b t) (.int ((p : Int) + 1 + ((1 : Nat) : Int)) ui)))
    (ht : ∀ r, letTemporaryGo value (.bytes b t) r = pure ()) : wpAny (model prog w) A (subscriptTail value slice (.bytes b t) (.int ((p : Int) + 1 + ((1 : Nat) : Int)) ui)) Q E s := by
  refine KBw.item_K hk (by omega) (by omega) (by omega) (fun t' k => ?_) hs ht
  have e : ((p : Int) + 1 + ((1 : Nat) : Int)).toNat = p + 2 := by omega
  rw [e]
  exact h t' k
theorem oct_getS2 {b : Array UInt8} {t ui : Tok} {ks : List Int} {value slice : PySem.Expr} {p : Nat} {Q : Value → Shared → Prop} (hk : KBw.bInts b = ks) (hfit : ks.length ≤ 1000) (hl : p + 3 < ks.length)
    (h : ∀ t' k, 0 ≤ ks.getD (p + 3) 0 → ks.getD (p + 3) 0 < 256 → Q (.int (ks.getD (p + 3) 0) t') { s with toks := k })
    (hs : subscripted slice false (.bytes b t) (.int ((p : Int) + 1 + ((2 : Nat) : Int)) ui) = operate [.bytes b t, .int ((p : Int) + 1 + ((2 : Nat) : Int)) ui] (getItem (.bytes b t) (.int ((p : Int) + 1 + ((2 : Nat) : Int)) ui)))
    (ht : ∀ r, letTemporaryGo value (.bytes b t) r = pure ()) : wpAny (model prog w) A (subscriptTail value slice (.bytes b t) (.int ((p : Int) + 1 + ((2 : Nat) : Int)) ui)) Q E s := by
  refine KBw.item_K hk (by omega) (by omega) (by omega) (fun t' k => ?_) hs ht
  have e : ((p : Int) + 1 + ((2 : Nat) : Int)).toNat = p + 3 := by omega
  rw [e]
  exact h t' k
theorem range_n {env : Env} {h₀ : Heap} {x : Str} {body : List Stmt} {Q : Flow → Shared → Prop} {r : Addr} {a₀ b₀ : Int} {t₀ u₀ v₀ : Tok} (n : Nat) {m₀ : Str → Option Value} {news : List (Addr × Obj)}
    (hh : A.handled = none) (hr : IsRange s.heap r a₀ b₀ 1 t₀ u₀ v₀) (ha : 0 ≤ a₀) (ha2 : a₀ < 1000000) (hb : b₀ = a₀ + (n : Int) ∧ n < 1000000) (F : Fr h₀ env.locals s.heap m₀) (N : News h₀ env.locals s.heap news)
    (rest₀ : ∀ I : Addr, (∀ p ∈ news, p.1 < I) → RangeRest prog w A E h₀ env x body Q s I a₀ n n 0 m₀ news) :
    wpAny (model prog w) A (pyIter (.ref r)) (fun it s₂ => LoopAtV prog w A h₀ env x body Q E it s₂) E s :=
  iter_rangeUnr hh hr (small_one (by omega) (by omega) (by omega) (by omega)) (by rw [rangeSize_nat]; omega) F N rest₀
end

section
variable {ks : List Int} {p : Nat} {k c : Int}
theorem ld0 {x : Int} (h : x < 128) : leadOf x = some (0, x) := by unfold leadOf; rw [if_pos h]
theorem ld1 {x : Int} (h : 192 ≤ x) (h2 : x < 224) : leadOf x = some (1, x - 192) := by unfold leadOf; rw [if_neg (by omega), if_pos ⟨h, h2⟩]
theorem ld2 {x : Int} (h : 224 ≤ x) (h2 : x < 240) : leadOf x = some (2, x - 224) := by unfold leadOf; rw [if_neg (by omega), if_neg (by omega), if_pos ⟨h, h2⟩]
theorem ld3 {x : Int} (h : 240 ≤ x) (h2 : x < 248) : leadOf x = some (3, x - 240) := by unfold leadOf; rw [if_neg (by omega), if_neg (by omega), if_neg (by omega), if_pos ⟨h, h2⟩]
theorem foll_t {b : Int} (h : 128 ≤ b ∧ b < 192) : foll b = true := decide_eq_true h
theorem foll_f {b : Int} (h : ¬ (128 ≤ b ∧ b < 192)) : foll b = false := decide_eq_false h
theorem finO (h : 1114111 < c) : fin' k c = none := by unfold fin'; rw [if_pos h]
theorem finB (h : 55296 ≤ c ∧ c ≤ 57343) : fin' k c = none := by unfold fin'; rw [if_neg (by omega), if_pos (decide_eq_true h)]
theorem finZ (h1 : ¬ 1114111 < c) (h2 : ¬ (55296 ≤ c ∧ c ≤ 57343)) (h : ¬ sizeOf' c = k + 1) : fin' k c = none := by unfold fin'; rw [if_neg h1, if_neg (by simp only [decide_eq_true_eq]; exact h2), if_pos h]
theorem finS (h1 : ¬ 1114111 < c) (h2 : ¬ (55296 ≤ c ∧ c ≤ 57343)) (h : sizeOf' c = k + 1) : fin' k c = some c := by unfold fin'; rw [if_neg h1, if_neg (by simp only [decide_eq_true_eq]; exact h2), if_neg (fun n => n h)]
theorem waN (h : leadOf (ks.getD p 0) = none) : wholeAt ks p = none := by unfold wholeAt; rw [h]
theorem waS (h : leadOf (ks.getD p 0) = some (k, c)) (hl : (ks.length : Int) ≤ p + k) : wholeAt ks p = none := by unfold wholeAt; rw [h]; dsimp only; rw [if_pos hl]
theorem wa0 (h : ks.getD p 0 < 128) (hl : ¬ (ks.length : Int) ≤ p + 0) : wholeAt ks p = fin' 0 (ks.getD p 0) := by unfold wholeAt; rw [ld0 h]; dsimp only; rw [if_neg hl, if_pos rfl]
theorem wa1b (h : 192 ≤ ks.getD p 0) (h2 : ks.getD p 0 < 224) (hb : ¬ (128 ≤ ks.getD (p + 1) 0 ∧ ks.getD (p + 1) 0 < 192)) : wholeAt ks p = none := by
  unfold wholeAt; rw [ld1 h h2]; dsimp only; rw [foll_f hb]; simp
theorem wa1 (h : 192 ≤ ks.getD p 0) (h2 : ks.getD p 0 < 224) (hl : ¬ (ks.length : Int) ≤ p + 1) (hb : 128 ≤ ks.getD (p + 1) 0 ∧ ks.getD (p + 1) 0 < 192) : wholeAt ks p = fin' 1 ((ks.getD p 0 - 192) * 64 + ks.getD (p + 1) 0 - 128) := by
  unfold wholeAt; rw [ld1 h h2]; dsimp only; rw [foll_t hb, if_neg hl, if_neg (by decide), if_pos rfl, if_pos rfl]
theorem wa2b (h : 224 ≤ ks.getD p 0) (h2 : ks.getD p 0 < 240) (hb : ¬ (128 ≤ ks.getD (p + 1) 0 ∧ ks.getD (p + 1) 0 < 192)) : wholeAt ks p = none := by
  unfold wholeAt; rw [ld2 h h2]; dsimp only; rw [foll_f hb]; simp
theorem wa2c (h : 224 ≤ ks.getD p 0) (h2 : ks.getD p 0 < 240) (hb : ¬ (128 ≤ ks.getD (p + 2) 0 ∧ ks.getD (p + 2) 0 < 192)) : wholeAt ks p = none := by
  unfold wholeAt; rw [ld2 h h2]; dsimp only; rw [foll_f hb]; simp
theorem wa2 (h : 224 ≤ ks.getD p 0) (h2 : ks.getD p 0 < 240) (hl : ¬ (ks.length : Int) ≤ p + 2) (hb : 128 ≤ ks.getD (p + 1) 0 ∧ ks.getD (p + 1) 0 < 192) (hc : 128 ≤ ks.getD (p + 2) 0 ∧ ks.getD (p + 2) 0 < 192) :
    wholeAt ks p = fin' 2 (((ks.getD p 0 - 224) * 64 + ks.getD (p + 1) 0 - 128) * 64 + ks.getD (p + 2) 0 - 128) := by
  unfold wholeAt; rw [ld2 h h2]; dsimp only; rw [foll_t hb, foll_t hc, if_neg hl, if_neg (by decide), if_neg (by decide), if_pos rfl]; rfl
theorem wa2s (h : 224 ≤ ks.getD p 0) (h2 : ks.getD p 0 < 240) (hl : ¬ (ks.length : Int) ≤ p + 2) (hb : 128 ≤ ks.getD (p + 1) 0 ∧ ks.getD (p + 1) 0 < 192) (hc : 128 ≤ ks.getD (p + 2) 0 ∧ ks.getD (p + 2) 0 < 192) (hn : ¬ (55296 ≤ ((ks.getD p 0 - 224) * 64 + ks.getD (p + 1) 0 - 128) * 64 + ks.getD (p + 2) 0 - 128 ∧ ((ks.getD p 0 - 224) * 64 + ks.getD (p + 1) 0 - 128) * 64 + ks.getD (p + 2) 0 - 128 ≤ 57343)) (hz : sizeOf' (((ks.getD p 0 - 224) * 64 + ks.getD (p + 1) 0 - 128) * 64 + ks.getD (p + 2) 0 - 128) = 2 + 1) : wholeAt ks p = some (((ks.getD p 0 - 224) * 64 + ks.getD (p + 1) 0 - 128) * 64 + ks.getD (p + 2) 0 - 128) := (wa2 h h2 hl hb hc).trans (finS (by omega) hn hz)
theorem wa2z (h : 224 ≤ ks.getD p 0) (h2 : ks.getD p 0 < 240) (hl : ¬ (ks.length : Int) ≤ p + 2) (hb : 128 ≤ ks.getD (p + 1) 0 ∧ ks.getD (p + 1) 0 < 192) (hc : 128 ≤ ks.getD (p + 2) 0 ∧ ks.getD (p + 2) 0 < 192) (hn : ¬ (55296 ≤ ((ks.getD p 0 - 224) * 64 + ks.getD (p + 1) 0 - 128) * 64 + ks.getD (p + 2) 0 - 128 ∧ ((ks.getD p 0 - 224) * 64 + ks.getD (p + 1) 0 - 128) * 64 + ks.getD (p + 2) 0 - 128 ≤ 57343)) (hz : ¬ sizeOf' (((ks.getD p 0 - 224) * 64 + ks.getD (p + 1) 0 - 128) * 64 + ks.getD (p + 2) 0 - 128) = 2 + 1) : wholeAt ks p = none := (wa2 h h2 hl hb hc).trans (finZ (by omega) hn hz)
theorem wa3b (h : 240 ≤ ks.getD p 0) (h2 : ks.getD p 0 < 248) (hb : ¬ (128 ≤ ks.getD (p + 1) 0 ∧ ks.getD (p + 1) 0 < 192)) : wholeAt ks p = none := by
  unfold wholeAt; rw [ld3 h h2]; dsimp only; rw [foll_f hb]; simp
theorem wa3c (h : 240 ≤ ks.getD p 0) (h2 : ks.getD p 0 < 248) (hb : ¬ (128 ≤ ks.getD (p + 2) 0 ∧ ks.getD (p + 2) 0 < 192)) : wholeAt ks p = none := by
  unfold wholeAt; rw [ld3 h h2]; dsimp only; rw [foll_f hb]; simp
theorem wa3d (h : 240 ≤ ks.getD p 0) (h2 : ks.getD p 0 < 248) (hb : ¬ (128 ≤ ks.getD (p + 3) 0 ∧ ks.getD (p + 3) 0 < 192)) : wholeAt ks p = none := by
  unfold wholeAt; rw [ld3 h h2]; dsimp only; rw [foll_f hb]; simp
theorem wa3 (h : 240 ≤ ks.getD p 0) (h2 : ks.getD p 0 < 248) (hl : ¬ (ks.length : Int) ≤ p + 3) (hb : 128 ≤ ks.getD (p + 1) 0 ∧ ks.getD (p + 1) 0 < 192) (hc : 128 ≤ ks.getD (p + 2) 0 ∧ ks.getD (p + 2) 0 < 192) (hd : 128 ≤ ks.getD (p + 3) 0 ∧ ks.getD (p + 3) 0 < 192) :
    wholeAt ks p = fin' 3 ((((ks.getD p 0 - 240) * 64 + ks.getD (p + 1) 0 - 128) * 64 + ks.getD (p + 2) 0 - 128) * 64 + ks.getD (p + 3) 0 - 128) := by
  unfold wholeAt; rw [ld3 h h2]; dsimp only; rw [foll_t hb, foll_t hc, foll_t hd, if_neg hl, if_neg (by decide), if_neg (by decide), if_neg (by decide)]; rfl
end
set_option maxRecDepth 100000 in
set_option maxHeartbeats 8000000 in
theorem whole_at_con (w : World) (mean : ExcName → Option Value) (mg mb : Str → Option Value) (news : List (Addr × Obj)) (b : Array UInt8) (tb ta : Tok) (ks : List Int) (p : Nat)
    (hb : KBw.bInts b = ks) (hl : ks.length ≤ 16) (hp : p < ks.length) :
    Con w mean mg mb 90 [.bytes b tb, .int (p : Int) ta] news 2 16 (fun G q => (wholeAt ks p = none → ∀ h' tk', G h' news → q .none h' tk') ∧ (∀ c t h' tk', wholeAt ks p = some c → G h' news → q (.int c t) h' tk')) := by
  w_top off
  k_with_none
  k_with "UnrEnd" => ((first
    | (refine unrEnd_mid (pre := []) (by k_asm) (by k_asm) (by k_all) (by k_all) ?_; k_whole)
    | (refine unrEnd_mid (pre := [_]) (by k_asm) (by k_asm) (by k_all) (by k_all) ?_; k_whole)
    | (refine unrEnd_mid (pre := [_, _]) (by k_asm) (by k_asm) (by k_all) (by k_all) ?_; k_whole)
    | (refine unrEnd_mid (pre := [_, _, _]) (by k_asm) (by k_asm) (by k_all) (by k_all) ?_; k_whole)
    | (refine unrEnd_mid (pre := [_, _, _, _]) (by k_asm) (by k_asm) (by k_all) (by k_all) ?_; k_whole)); (try dsimp only [List.cons_append, List.nil_append]))
  k_with "mine.and" => (first | assumption | exact And.left (by assumption) | exact And.left (And.right (by assumption)) | exact And.right (by assumption) | exact And.left (And.right (And.right (by assumption))) | exact And.right (And.right (by assumption)) | exact And.left (And.right (And.right (And.right (by assumption)))) | exact And.right (And.right (And.right (by assumption))) | exact And.left (And.right (And.right (And.right (And.right (by assumption))))) | exact And.right (And.right (And.right (And.right (by assumption)))) | exact And.left (And.right (And.right (And.right (And.right (And.right (by assumption)))))) | exact And.right (And.right (And.right (And.right (And.right (by assumption))))) | exact And.left (And.right (And.right (And.right (And.right (And.right (And.right (by assumption))))))) | exact And.right (And.right (And.right (And.right (And.right (And.right (by assumption)))))) | exact And.left (And.right (And.right (And.right (And.right (And.right (And.right (And.right (by assumption)))))))) | exact And.right (And.right (And.right (And.right (And.right (And.right (And.right (by assumption))))))) | exact And.left (And.right (And.right (And.right (And.right (And.right (And.right (And.right (And.right (by assumption))))))))) | exact And.right (And.right (And.right (And.right (And.right (And.right (And.right (And.right (by assumption)))))))) | exact And.left (And.right (And.right (And.right (And.right (And.right (And.right (And.right (And.right (And.right (by assumption)))))))))) | exact And.right (And.right (And.right (And.right (And.right (And.right (And.right (And.right (And.right (by assumption))))))))) | exact And.left (And.right (And.right (And.right (And.right (And.right (And.right (And.right (And.right (And.right (And.right (by assumption))))))))))) | exact And.right (And.right (And.right (And.right (And.right (And.right (And.right (And.right (And.right (And.right (by assumption)))))))))) | exact And.left (And.right (And.right (And.right (And.right (And.right (And.right (And.right (And.right (And.right (And.right (And.right (by assumption)))))))))))) | exact And.right (And.right (And.right (And.right (And.right (And.right (And.right (And.right (And.right (And.right (And.right (by assumption))))))))))) | exact And.left (And.right (And.right (And.right (And.right (And.right (And.right (And.right (And.right (And.right (And.right (And.right (And.right (by assumption))))))))))))) | exact And.right (And.right (And.right (And.right (And.right (And.right (And.right (And.right (And.right (And.right (And.right (And.right (by assumption)))))))))))) | exact And.left (And.right (And.right (And.right (And.right (And.right (And.right (And.right (And.right (And.right (And.right (And.right (And.right (And.right (by assumption)))))))))))))) | exact And.right (And.right (And.right (And.right (And.right (And.right (And.right (And.right (And.right (And.right (And.right (And.right (And.right (by assumption))))))))))))) | exact And.left (And.right (And.right (And.right (And.right (And.right (And.right (And.right (And.right (And.right (And.right (And.right (And.right (And.right (And.right (by assumption))))))))))))))) | exact And.right (And.right (And.right (And.right (And.right (And.right (And.right (And.right (And.right (And.right (And.right (And.right (And.right (And.right (by assumption)))))))))))))) | exact And.left (And.right (And.right (And.right (And.right (And.right (And.right (And.right (And.right (And.right (And.right (And.right (And.right (And.right (And.right (And.right (by assumption)))))))))))))))) | exact And.right (And.right (And.right (And.right (And.right (And.right (And.right (And.right (And.right (And.right (And.right (And.right (And.right (And.right (And.right (by assumption))))))))))))))) | exact And.left (And.right (And.right (And.right (And.right (And.right (And.right (And.right (And.right (And.right (And.right (And.right (And.right (And.right (And.right (And.right (And.right (by assumption))))))))))))))))) | exact And.right (And.right (And.right (And.right (And.right (And.right (And.right (And.right (And.right (And.right (And.right (And.right (And.right (And.right (And.right (And.right (by assumption)))))))))))))))) | exact And.left (And.right (And.right (And.right (And.right (And.right (And.right (And.right (And.right (And.right (And.right (And.right (And.right (And.right (And.right (And.right (And.right (And.right (by assumption)))))))))))))))))) | exact And.right (And.right (And.right (And.right (And.right (And.right (And.right (And.right (And.right (And.right (And.right (And.right (And.right (And.right (And.right (And.right (And.right (by assumption))))))))))))))))))
  k_with "subscriptTail Name Name bytes int" => (k_here; k_dflt (first
    | ((with_reducible show wpAny _ _ (subscriptTail _ _ (Value.bytes _ _) (Value.int (Nat.cast _) _)) _ _ _); refine oct_get0 (by with_reducible assumption) (by omega) (by omega) ?_ (by with_unfolding_all rfl) (by intro _; with_unfolding_all rfl); k_whole)
    | ((with_reducible show wpAny _ _ (subscriptTail _ _ (Value.bytes _ _) (Value.int (_ + 1 + Nat.cast _) _)) _ _ _); refine oct_getS0 (by with_reducible assumption) (by omega) (by omega) ?_ (by with_unfolding_all rfl) (by intro _; with_unfolding_all rfl); k_whole)
    | ((with_reducible show wpAny _ _ (subscriptTail _ _ (Value.bytes _ _) (Value.int (_ + 1 + Nat.cast _) _)) _ _ _); refine oct_getS1 (by with_reducible assumption) (by omega) (by omega) ?_ (by with_unfolding_all rfl) (by intro _; with_unfolding_all rfl); k_whole)
    | ((with_reducible show wpAny _ _ (subscriptTail _ _ (Value.bytes _ _) (Value.int (_ + 1 + Nat.cast _) _)) _ _ _); refine oct_getS2 (by with_reducible assumption) (by omega) (by omega) ?_ (by with_unfolding_all rfl) (by intro _; with_unfolding_all rfl); k_whole)); intro _ _ octLo octHi)
  k_with "pyIter ref" => ((with_reducible show wpAny _ _ (pyIter (Value.ref _)) (fun it s₂ => LoopAtV _ _ _ _ _ _ _ _ _ it s₂) _ _); (rename IsRange _ _ _ _ _ _ _ _ => rg'); (rename Fr _ _ _ _ => lF'); (rename News _ _ _ _ => lN'); (first
    | (with_unfolding_all refine range_n 0 (by rfl) rg' (by omega) (by omega) (by omega) lF' lN' ?_)
    | (with_unfolding_all refine range_n 1 (by rfl) rg' (by omega) (by omega) (by omega) lF' lN' ?_)
    | (with_unfolding_all refine range_n 2 (by rfl) rg' (by omega) (by omega) (by omega) lF' lN' ?_)
    | (with_unfolding_all refine range_n 3 (by rfl) rg' (by omega) (by omega) (by omega) lF' lN' ?_)); clear lF' lN'; intro i' l1; (try k_lt l1))
  k_with "call ref" => (
    k_here
    (with_reducible show wpAny _ _ (call (Value.ref 76) [Value.int _ _]) _ _ _)
    k_dflt (refine con_app (by k_asm) (by k_asm) (by k_asm) (by k_asm) (by k_asm) (by first | exact rfl | assumption) (by ktr_room) (by ktr_units) (lead_of_con _ _ _ _ _ _ _ (by first | assumption | omega) (by first | assumption | omega)) ?_)
    (try dsimp only)
    refine' ⟨?_, ?_, ?_, ?_, ?_⟩
    all_goals (intros; (with_reducible rename Fr _ _ _ _ ∧ News _ _ _ _ => hFN'); (obtain ⟨F', N'⟩ := hFN'); (try k_fold); (try k_sweep)))
  k_with "call ref" => (
    k_here
    (with_reducible show wpAny _ _ (call (Value.ref 83) [Value.int _ _]) _ _ _)
    k_dflt (refine con_app (by k_asm) (by k_asm) (by k_asm) (by k_asm) (by k_asm) (by first | exact rfl | assumption) (by ktr_room) (by ktr_units) (is_following_con _ _ _ _ _ _ _ (by first | assumption | omega) (by first | assumption | omega)) ?_)
    (try dsimp only)
    intros
    (with_reducible rename Fr _ _ _ _ ∧ News _ _ _ _ => hFN')
    (obtain ⟨F', N'⟩ := hFN')
    (try k_fold)
    (try k_sweep))
  k_with "call ref" => (
    k_here
    (with_reducible show wpAny _ _ (call (Value.ref 55) [Value.int _ _]) _ _ _)
    k_dflt (refine con_app (by k_asm) (by k_asm) (by k_asm) (by k_asm) (by k_asm) (by first | exact rfl | assumption) (by ktr_room) (by ktr_units) (is_bad_con _ _ _ _ _ _ _) ?_)
    (try dsimp only)
    intros
    (with_reducible rename Fr _ _ _ _ ∧ News _ _ _ _ => hFN')
    (obtain ⟨F', N'⟩ := hFN')
    (try k_fold)
    (try k_sweep))
  k_with "call ref" => (
    k_here
    (with_reducible show wpAny _ _ (call (Value.ref 62) [Value.int _ _]) _ _ _)
    k_dflt (refine con_app (by k_asm) (by k_asm) (by k_asm) (by k_asm) (by k_asm) (by first | exact rfl | assumption) (by ktr_room) (by ktr_units) (size_of_code_con _ _ _ _ _ _ _ (by first | assumption | omega) (by first | assumption | omega)) ?_)
    (try dsimp only)
    intros
    (with_reducible rename Fr _ _ _ _ ∧ News _ _ _ _ => hFN')
    (obtain ⟨F', N'⟩ := hFN')
    (try k_fold)
    (try k_sweep))
  dsimp only [Con]
  k_fill
  intro dp un gd cn cs a ccd cl outer A₀ base h₀ L m s Q E B F X N T hk hd hu hret
  refine wpAny_call ?_
  k_dflt cell_enter
  k_steps
  all_goals (
    obtain ⟨rN, rS⟩ := hret
    first
    | (refine rN ?_ _ _ ⟨by k_asm, by (first | k_asm | exact news_tl (by k_asm) | exact news_tl (news_tl (by k_asm)) | exact news_tl (news_tl (news_tl (by k_asm))) | exact news_tl (news_tl (news_tl (news_tl (by k_asm)))) | exact news_tl (news_tl (news_tl (news_tl (news_tl (by k_asm))))) | exact news_tl (news_tl (news_tl (news_tl (news_tl (news_tl (by k_asm)))))) | exact news_tl (news_tl (news_tl (news_tl (news_tl (news_tl (news_tl (by k_asm))))))) | exact news_tl (news_tl (news_tl (news_tl (news_tl (news_tl (news_tl (news_tl (by k_asm)))))))) | exact news_tl (news_tl (news_tl (news_tl (news_tl (news_tl (news_tl (news_tl (news_tl (by k_asm))))))))))⟩
       first
       | exact waN (by assumption)
       | exact waS (ld0 (by assumption)) (by omega)
       | exact waS (ld1 (by assumption) (by assumption)) (by omega)
       | exact waS (ld2 (by assumption) (by assumption)) (by omega)
       | exact waS (ld3 (by assumption) (by assumption)) (by omega)
       | exact wa1b (by assumption) (by assumption) (by assumption)
       | exact wa2b (by assumption) (by assumption) (by assumption)
       | exact wa2c (by assumption) (by assumption) (by assumption)
       | exact wa3b (by assumption) (by assumption) (by assumption)
       | exact wa3c (by assumption) (by assumption) (by assumption)
       | exact wa3d (by assumption) (by assumption) (by assumption)
       | exact (wa0 (by assumption) (by omega)).trans (finO (by assumption))
       | exact (wa0 (by assumption) (by omega)).trans (finB (by assumption))
       | exact (wa0 (by assumption) (by omega)).trans (finZ (by first | assumption | omega) (by first | assumption | omega) (by assumption))
       | exact (wa1 (by assumption) (by assumption) (by assumption) (by assumption)).trans (finO (by assumption))
       | exact (wa1 (by assumption) (by assumption) (by assumption) (by assumption)).trans (finB (by assumption))
       | exact (wa1 (by assumption) (by assumption) (by assumption) (by assumption)).trans (finZ (by first | assumption | omega) (by first | assumption | omega) (by assumption))
       | exact (wa2 (by assumption) (by assumption) (by assumption) (by assumption) (by assumption)).trans (finO (by assumption))
       | exact (wa2 (by assumption) (by assumption) (by assumption) (by assumption) (by assumption)).trans (finB (by assumption))
       | exact (wa2 (by assumption) (by assumption) (by assumption) (by assumption) (by assumption)).trans (finZ (by first | assumption | omega) (by first | assumption | omega) (by assumption))
       | exact wa2z (by assumption) (by assumption) (by assumption) (by assumption) (by assumption) (by assumption) (by assumption)
       | exact (wa3 (by assumption) (by assumption) (by assumption) (by assumption) (by assumption) (by assumption)).trans (finO (by assumption))
       | exact (wa3 (by assumption) (by assumption) (by assumption) (by assumption) (by assumption) (by assumption)).trans (finB (by assumption))
       | exact (wa3 (by assumption) (by assumption) (by assumption) (by assumption) (by assumption) (by assumption)).trans (finZ (by first | assumption | omega) (by first | assumption | omega) (by assumption)))
    | (refine rS _ _ _ _ ?_ ⟨by k_asm, by (first | k_asm | exact news_tl (by k_asm) | exact news_tl (news_tl (by k_asm)) | exact news_tl (news_tl (news_tl (by k_asm))) | exact news_tl (news_tl (news_tl (news_tl (by k_asm)))) | exact news_tl (news_tl (news_tl (news_tl (news_tl (by k_asm))))) | exact news_tl (news_tl (news_tl (news_tl (news_tl (news_tl (by k_asm)))))) | exact news_tl (news_tl (news_tl (news_tl (news_tl (news_tl (news_tl (by k_asm))))))) | exact news_tl (news_tl (news_tl (news_tl (news_tl (news_tl (news_tl (news_tl (by k_asm)))))))) | exact news_tl (news_tl (news_tl (news_tl (news_tl (news_tl (news_tl (news_tl (news_tl (by k_asm))))))))))⟩
       first
       | exact (wa0 (by assumption) (by omega)).trans (finS (by first | assumption | omega) (by first | assumption | omega) (by assumption))
       | exact (wa1 (by assumption) (by assumption) (by assumption) (by assumption)).trans (finS (by first | assumption | omega) (by first | assumption | omega) (by assumption))
       | exact (wa2 (by assumption) (by assumption) (by assumption) (by assumption) (by assumption)).trans (finS (by first | assumption | omega) (by first | assumption | omega) (by assumption))
       | exact wa2s (by assumption) (by assumption) (by assumption) (by assumption) (by assumption) (by assumption) (by assumption)
       | exact (wa3 (by assumption) (by assumption) (by assumption) (by assumption) (by assumption) (by assumption)).trans (finS (by first | assumption | omega) (by first | assumption | omega) (by assumption)))
    | (trace_state; w_report))

end

section
theorem size4_con (w : World) (mean : ExcName → Option Value) (mg mb : Str → Option Value) (news : List (Addr × Obj)) (x : Int) (tx : Tok) (h0 : 0 ≤ x) (h1 : x < 1114112) :
    Con w mean mg mb 62 [.int x tx] news 1 8 (fun G q => (x < 128 → ∀ t h' tk', G h' news → q (.int 1 t) h' tk') ∧ (128 ≤ x → x < 2048 → ∀ t h' tk', G h' news → q (.int 2 t) h' tk') ∧
      (2048 ≤ x → x < 65536 → ∀ t h' tk', G h' news → q (.int 3 t) h' tk') ∧ (65536 ≤ x → ∀ t h' tk', G h' news → q (.int 4 t) h' tk')) := by
  intro dp un gd cn cs a ccd cl outer A₀ base h₀ L m s Q E B F X N T hk hd hu hret
  obtain ⟨r1, r2, r3, r4⟩ := hret
  refine size_of_code_con w mean mg mb news x tx (by omega) h1 dp un gd cn cs a ccd cl outer A₀ base h₀ L m s Q E B F X N T hk hd hu fun t h' tk' g => ?_
  have e : sizeOf' x = if x < 128 then 1 else if x < 2048 then 2 else if x < 65536 then 3 else 4 := rfl
  by_cases a1 : x < 128
  · rw [e, if_pos a1]; exact r1 a1 t h' tk' g
  · by_cases a2 : x < 2048
    · rw [e, if_neg a1, if_pos a2]; exact r2 (by omega) a2 t h' tk' g
    · by_cases a3 : x < 65536
      · rw [e, if_neg a1, if_neg a2, if_pos a3]; exact r3 (by omega) a3 t h' tk' g
      · rw [e, if_neg a1, if_neg a2, if_neg a3]; exact r4 (by omega) t h' tk' g
theorem in_nil : KBa.In [] := fun _ h => nomatch h
theorem in_cons {x : Int} {l : List Int} (h : 0 ≤ x ∧ x < 256) (r : KBa.In l) : KBa.In (x :: l) := fun n hn => by
  rcases List.mem_cons.mp hn with rfl | hn
  · exact h
  · exact r n hn
theorem fd64 (x : Int) : x.fdiv 64 = x / 64 := Int.fdiv_eq_ediv_of_nonneg x (by decide)
theorem fm64 (x : Int) : x.fmod 64 = x % 64 := Int.fmod_eq_emod_of_nonneg x (by decide)
def encInts (c : Int) : List Int :=
  if c < 128 then [c] else if c < 2048 then [192 + c.fdiv 64, 128 + c.fmod 64]
  else if c < 65536 then [224 + (c.fdiv 64).fdiv 64, 128 + (c.fdiv 64).fmod 64, 128 + c.fmod 64]
  else [240 + ((c.fdiv 64).fdiv 64).fdiv 64, 128 + ((c.fdiv 64).fdiv 64).fmod 64, 128 + (c.fdiv 64).fmod 64, 128 + c.fmod 64]
theorem en1 {c : Int} (h : c < 128) : encInts c = [c] := by unfold encInts; rw [if_pos h]
theorem en2 {c : Int} (h : 128 ≤ c) (h2 : c < 2048) : encInts c = [192 + c.fdiv 64, 128 + c.fmod 64] := by unfold encInts; rw [if_neg (by omega), if_pos h2]
theorem en3 {c : Int} (h : 2048 ≤ c) (h2 : c < 65536) : encInts c = [224 + (c.fdiv 64).fdiv 64, 128 + (c.fdiv 64).fmod 64, 128 + c.fmod 64] := by unfold encInts; rw [if_neg (by omega), if_neg (by omega), if_pos h2]
theorem en4 {c : Int} (h : 65536 ≤ c) : encInts c = [240 + ((c.fdiv 64).fdiv 64).fdiv 64, 128 + ((c.fdiv 64).fdiv 64).fmod 64, 128 + (c.fdiv 64).fmod 64, 128 + c.fmod 64] := by unfold encInts; rw [if_neg (by omega), if_neg (by omega), if_neg (by omega)]
set_option maxRecDepth 100000 in
set_option maxHeartbeats 8000000 in
theorem encoded_con (w : World) (mean : ExcName → Option Value) (mg mb : Str → Option Value) (news : List (Addr × Obj)) (c : Int) (tc : Tok) (h0 : 0 ≤ c) (h1 : c < 1114112) :
    Con w mean mg mb 69 [.int c tc] news 2 16 (fun G q => ∀ b t h' tk', KBw.bInts b = encInts c → G h' news → q (.bytes b t) h' tk') := by
  w_top off
  k_with_none
  k_with "UnrEnd" => ((first
    | (refine unrEnd_mid (pre := []) (by k_asm) (by k_asm) (by k_all) (by k_all) ?_; k_whole)
    | (refine unrEnd_mid (pre := [_]) (by k_asm) (by k_asm) (by k_all) (by k_all) ?_; k_whole)
    | (refine unrEnd_mid (pre := [_, _]) (by k_asm) (by k_asm) (by k_all) (by k_all) ?_; k_whole)
    | (refine unrEnd_mid (pre := [_, _, _]) (by k_asm) (by k_asm) (by k_all) (by k_all) ?_; k_whole)
    | (refine unrEnd_mid (pre := [_, _, _, _]) (by k_asm) (by k_asm) (by k_all) (by k_all) ?_; k_whole)); (try dsimp only [List.cons_append, List.nil_append]))
  k_with "mine.and" => (first | assumption | exact And.left (by assumption) | exact And.left (And.right (by assumption)) | exact And.right (by assumption) | exact And.left (And.right (And.right (by assumption))) | exact And.right (And.right (by assumption)) | exact And.left (And.right (And.right (And.right (by assumption)))) | exact And.right (And.right (And.right (by assumption))) | exact And.left (And.right (And.right (And.right (And.right (by assumption))))) | exact And.right (And.right (And.right (And.right (by assumption)))) | exact And.left (And.right (And.right (And.right (And.right (And.right (by assumption)))))) | exact And.right (And.right (And.right (And.right (And.right (by assumption))))) | exact And.left (And.right (And.right (And.right (And.right (And.right (And.right (by assumption))))))) | exact And.right (And.right (And.right (And.right (And.right (And.right (by assumption)))))) | exact And.left (And.right (And.right (And.right (And.right (And.right (And.right (And.right (by assumption)))))))) | exact And.right (And.right (And.right (And.right (And.right (And.right (And.right (by assumption))))))) | exact And.left (And.right (And.right (And.right (And.right (And.right (And.right (And.right (And.right (by assumption))))))))) | exact And.right (And.right (And.right (And.right (And.right (And.right (And.right (And.right (by assumption)))))))) | exact And.left (And.right (And.right (And.right (And.right (And.right (And.right (And.right (And.right (And.right (by assumption)))))))))) | exact And.right (And.right (And.right (And.right (And.right (And.right (And.right (And.right (And.right (by assumption))))))))) | exact And.left (And.right (And.right (And.right (And.right (And.right (And.right (And.right (And.right (And.right (And.right (by assumption))))))))))) | exact And.right (And.right (And.right (And.right (And.right (And.right (And.right (And.right (And.right (And.right (by assumption)))))))))) | exact And.left (And.right (And.right (And.right (And.right (And.right (And.right (And.right (And.right (And.right (And.right (And.right (by assumption)))))))))))) | exact And.right (And.right (And.right (And.right (And.right (And.right (And.right (And.right (And.right (And.right (And.right (by assumption))))))))))) | exact And.left (And.right (And.right (And.right (And.right (And.right (And.right (And.right (And.right (And.right (And.right (And.right (And.right (by assumption))))))))))))) | exact And.right (And.right (And.right (And.right (And.right (And.right (And.right (And.right (And.right (And.right (And.right (And.right (by assumption)))))))))))) | exact And.left (And.right (And.right (And.right (And.right (And.right (And.right (And.right (And.right (And.right (And.right (And.right (And.right (And.right (by assumption)))))))))))))) | exact And.right (And.right (And.right (And.right (And.right (And.right (And.right (And.right (And.right (And.right (And.right (And.right (And.right (by assumption))))))))))))) | exact And.left (And.right (And.right (And.right (And.right (And.right (And.right (And.right (And.right (And.right (And.right (And.right (And.right (And.right (And.right (by assumption))))))))))))))) | exact And.right (And.right (And.right (And.right (And.right (And.right (And.right (And.right (And.right (And.right (And.right (And.right (And.right (And.right (by assumption)))))))))))))) | exact And.left (And.right (And.right (And.right (And.right (And.right (And.right (And.right (And.right (And.right (And.right (And.right (And.right (And.right (And.right (And.right (by assumption)))))))))))))))) | exact And.right (And.right (And.right (And.right (And.right (And.right (And.right (And.right (And.right (And.right (And.right (And.right (And.right (And.right (And.right (by assumption))))))))))))))) | exact And.left (And.right (And.right (And.right (And.right (And.right (And.right (And.right (And.right (And.right (And.right (And.right (And.right (And.right (And.right (And.right (And.right (by assumption))))))))))))))))) | exact And.right (And.right (And.right (And.right (And.right (And.right (And.right (And.right (And.right (And.right (And.right (And.right (And.right (And.right (And.right (And.right (by assumption)))))))))))))))) | exact And.left (And.right (And.right (And.right (And.right (And.right (And.right (And.right (And.right (And.right (And.right (And.right (And.right (And.right (And.right (And.right (And.right (And.right (by assumption)))))))))))))))))) | exact And.right (And.right (And.right (And.right (And.right (And.right (And.right (And.right (And.right (And.right (And.right (And.right (And.right (And.right (And.right (And.right (And.right (by assumption))))))))))))))))))
  k_with "call ref" => (
    k_here
    (with_reducible show wpAny _ _ (call (Value.ref 62) [Value.int _ _]) _ _ _)
    k_dflt (refine con_app (by k_asm) (by k_asm) (by k_asm) (by k_asm) (by k_asm) (by first | exact rfl | assumption) (by ktr_room) (by ktr_units) (size4_con _ _ _ _ _ _ _ (by first | assumption | omega) (by first | assumption | omega)) ?_)
    (try dsimp only)
    refine' ⟨?_, ?_, ?_, ?_⟩
    all_goals (intros; (with_reducible rename Fr _ _ _ _ ∧ News _ _ _ _ => hFN'); (obtain ⟨F', N'⟩ := hFN'); (try k_fold); (try k_sweep)))
  k_with "binaryOp Sub int int" => ((with_reducible refine sub_int ?_); simp only [Int.reduceSub])
  k_with "call type:bytes" => (k_here; (with_reducible show wpAny _ _ (call (Value.type "bytes") [Value.ref _]) _ _ _); k_dflt (refine KBa.make_K (by k_asm) (by k_asm) (by rfl) (by kba_isList) (by kba_listInts) (by (repeat' (first | exact in_nil | refine in_cons ?_ ?_)) <;> (simp only [fd64, fm64]; omega)) (by simp only [List.length_append, List.length_cons, List.length_nil]; omega) ?_); intro _ _ _ F' N' kbaIn)
  dsimp only [Con]
  k_fill
  intro dp un gd cn cs a ccd cl outer A₀ base h₀ L m s Q E B F X N T hk hd hu hret
  refine wpAny_call ?_
  k_dflt cell_enter
  k_steps
  all_goals (first
    | exact hret _ _ _ _ ((KBa.ints_make (by assumption)).trans (en1 (by assumption)).symm) ⟨by k_asm, by (first | k_asm | exact news_tl (by k_asm) | exact news_tl (news_tl (by k_asm)) | exact news_tl (news_tl (news_tl (by k_asm))) | exact news_tl (news_tl (news_tl (news_tl (by k_asm)))) | exact news_tl (news_tl (news_tl (news_tl (news_tl (by k_asm))))) | exact news_tl (news_tl (news_tl (news_tl (news_tl (news_tl (by k_asm)))))) | exact news_tl (news_tl (news_tl (news_tl (news_tl (news_tl (news_tl (by k_asm))))))) | exact news_tl (news_tl (news_tl (news_tl (news_tl (news_tl (news_tl (news_tl (by k_asm)))))))) | exact news_tl (news_tl (news_tl (news_tl (news_tl (news_tl (news_tl (news_tl (news_tl (by k_asm))))))))))⟩
    | exact hret _ _ _ _ ((KBa.ints_make (by assumption)).trans (en2 (by assumption) (by assumption)).symm) ⟨by k_asm, by (first | k_asm | exact news_tl (by k_asm) | exact news_tl (news_tl (by k_asm)) | exact news_tl (news_tl (news_tl (by k_asm))) | exact news_tl (news_tl (news_tl (news_tl (by k_asm)))) | exact news_tl (news_tl (news_tl (news_tl (news_tl (by k_asm))))) | exact news_tl (news_tl (news_tl (news_tl (news_tl (news_tl (by k_asm)))))) | exact news_tl (news_tl (news_tl (news_tl (news_tl (news_tl (news_tl (by k_asm))))))) | exact news_tl (news_tl (news_tl (news_tl (news_tl (news_tl (news_tl (news_tl (by k_asm)))))))) | exact news_tl (news_tl (news_tl (news_tl (news_tl (news_tl (news_tl (news_tl (news_tl (by k_asm))))))))))⟩
    | exact hret _ _ _ _ ((KBa.ints_make (by assumption)).trans (en3 (by assumption) (by assumption)).symm) ⟨by k_asm, by (first | k_asm | exact news_tl (by k_asm) | exact news_tl (news_tl (by k_asm)) | exact news_tl (news_tl (news_tl (by k_asm))) | exact news_tl (news_tl (news_tl (news_tl (by k_asm)))) | exact news_tl (news_tl (news_tl (news_tl (news_tl (by k_asm))))) | exact news_tl (news_tl (news_tl (news_tl (news_tl (news_tl (by k_asm)))))) | exact news_tl (news_tl (news_tl (news_tl (news_tl (news_tl (news_tl (by k_asm))))))) | exact news_tl (news_tl (news_tl (news_tl (news_tl (news_tl (news_tl (news_tl (by k_asm)))))))) | exact news_tl (news_tl (news_tl (news_tl (news_tl (news_tl (news_tl (news_tl (news_tl (by k_asm))))))))))⟩
    | exact hret _ _ _ _ ((KBa.ints_make (by assumption)).trans (en4 (by assumption)).symm) ⟨by k_asm, by (first | k_asm | exact news_tl (by k_asm) | exact news_tl (news_tl (by k_asm)) | exact news_tl (news_tl (news_tl (by k_asm))) | exact news_tl (news_tl (news_tl (news_tl (by k_asm)))) | exact news_tl (news_tl (news_tl (news_tl (news_tl (by k_asm))))) | exact news_tl (news_tl (news_tl (news_tl (news_tl (news_tl (by k_asm)))))) | exact news_tl (news_tl (news_tl (news_tl (news_tl (news_tl (news_tl (by k_asm))))))) | exact news_tl (news_tl (news_tl (news_tl (news_tl (news_tl (news_tl (news_tl (by k_asm)))))))) | exact news_tl (news_tl (news_tl (news_tl (news_tl (news_tl (news_tl (news_tl (news_tl (by k_asm))))))))))⟩
    | exact hret _ _ _ _ ((KBa.ints_make (ns := [c]) (in_cons ⟨h0, by omega⟩ in_nil)).trans (en1 (by assumption)).symm) ⟨by k_asm, by (first | k_asm | exact news_tl (by k_asm) | exact news_tl (news_tl (by k_asm)) | exact news_tl (news_tl (news_tl (by k_asm))) | exact news_tl (news_tl (news_tl (news_tl (by k_asm)))) | exact news_tl (news_tl (news_tl (news_tl (news_tl (by k_asm))))) | exact news_tl (news_tl (news_tl (news_tl (news_tl (news_tl (by k_asm)))))) | exact news_tl (news_tl (news_tl (news_tl (news_tl (news_tl (news_tl (by k_asm))))))) | exact news_tl (news_tl (news_tl (news_tl (news_tl (news_tl (news_tl (news_tl (by k_asm)))))))) | exact news_tl (news_tl (news_tl (news_tl (news_tl (news_tl (news_tl (news_tl (news_tl (by k_asm))))))))))⟩
    | (trace_state; w_report))

end

section
theorem pool_nn (c : Int) (P : Prop) [Decidable P] : 0 ≤ (if -1 - c > c then -1 - c else c) * (if P then 1 else 0) := by
  have h : (0 : Int) ≤ if -1 - c > c then -1 - c else c := by split <;> omega
  by_cases hp : P
  · rw [if_pos hp, Int.mul_one]; exact h
  · rw [if_neg hp, Int.mul_zero]; exact Int.le_refl 0
set_option maxRecDepth 100000 in
set_option maxHeartbeats 8000000 in
theorem pool_con (w : World) (mean : ExcName → Option Value) (mg mb : Str → Option Value) (news : List (Addr × Obj)) (l : Addr) (vs : List Value) (ns : List Int) (hn : IntsAre vs ns) (hl : ns.length ≤ 63)
    (dp un : Nat) (gd : Option (List Code)) (cn : Str) (cs : Scope) (a : Addr) (ccd : Value) (cl : List (Str × Addr)) (outer : List Env) (A₀ : Around) (base h₀ : Heap) (L : Addr) (m : Str → Option Value) (s : Shared) (Q E : Value → Shared → Prop)
    (B : Below A₀ base outer h₀) (F : Fr h₀ L s.heap m) (X : (Mine.hd.heap_39 w.params).In h₀) (N : News h₀ L s.heap news)
    (T : Top Mine.hd.view_39 (looseW Mine.hd.view_39 [PySem.Str.ofString "RowsError", PySem.Str.ofString "LIMITS"]) mean mg mb h₀) (hk : cs.kind = .function)
    (hd : dp + 2 < recursionLimit) (hu : un + 16 < cLine) (hL : base.IsList l vs.toArray)
    (hret : ∀ D n vs' x y h' tk', IntsAre vs' [x, y] → 0 ≤ x → 0 ≤ y → y < 2147483647 → Fr h₀ L h' m → News h₀ L h' ((D, listOf vs'.toArray n) :: news) → AllLt D news → Q (.ref D) { s with heap := h', toks := tk' }) :
    wpAny (model (PySem.W.OpenLaw.row PySem.Challenge.rw_xm0683_01).prog w) (ktrTop dp un gd cn cs L a ccd cl outer) (call (.ref 97) [.ref l]) Q E s := by
  w_top off
  k_with_none
  k_with "UnrEnd" => ((first
    | (refine unrEnd_mid (pre := []) (by k_asm) (by k_asm) (by k_all) (by k_all) ?_; k_whole)
    | (refine unrEnd_mid (pre := [_]) (by k_asm) (by k_asm) (by k_all) (by k_all) ?_; k_whole)
    | (refine unrEnd_mid (pre := [_, _]) (by k_asm) (by k_asm) (by k_all) (by k_all) ?_; k_whole)
    | (refine unrEnd_mid (pre := [_, _, _]) (by k_asm) (by k_asm) (by k_all) (by k_all) ?_; k_whole)
    | (refine unrEnd_mid (pre := [_, _, _, _]) (by k_asm) (by k_asm) (by k_all) (by k_all) ?_; k_whole)); (try dsimp only [List.cons_append, List.nil_append]))
  k_with "mine.and" => (first | assumption | exact And.left (by assumption) | exact And.left (And.right (by assumption)) | exact And.right (by assumption) | exact And.left (And.right (And.right (by assumption))) | exact And.right (And.right (by assumption)) | exact And.left (And.right (And.right (And.right (by assumption)))) | exact And.right (And.right (And.right (by assumption))) | exact And.left (And.right (And.right (And.right (And.right (by assumption))))) | exact And.right (And.right (And.right (And.right (by assumption)))) | exact And.left (And.right (And.right (And.right (And.right (And.right (by assumption)))))) | exact And.right (And.right (And.right (And.right (And.right (by assumption))))) | exact And.left (And.right (And.right (And.right (And.right (And.right (And.right (by assumption))))))) | exact And.right (And.right (And.right (And.right (And.right (And.right (by assumption)))))) | exact And.left (And.right (And.right (And.right (And.right (And.right (And.right (And.right (by assumption)))))))) | exact And.right (And.right (And.right (And.right (And.right (And.right (And.right (by assumption))))))) | exact And.left (And.right (And.right (And.right (And.right (And.right (And.right (And.right (And.right (by assumption))))))))) | exact And.right (And.right (And.right (And.right (And.right (And.right (And.right (And.right (by assumption)))))))) | exact And.left (And.right (And.right (And.right (And.right (And.right (And.right (And.right (And.right (And.right (by assumption)))))))))) | exact And.right (And.right (And.right (And.right (And.right (And.right (And.right (And.right (And.right (by assumption))))))))) | exact And.left (And.right (And.right (And.right (And.right (And.right (And.right (And.right (And.right (And.right (And.right (by assumption))))))))))) | exact And.right (And.right (And.right (And.right (And.right (And.right (And.right (And.right (And.right (And.right (by assumption)))))))))) | exact And.left (And.right (And.right (And.right (And.right (And.right (And.right (And.right (And.right (And.right (And.right (And.right (by assumption)))))))))))) | exact And.right (And.right (And.right (And.right (And.right (And.right (And.right (And.right (And.right (And.right (And.right (by assumption))))))))))) | exact And.left (And.right (And.right (And.right (And.right (And.right (And.right (And.right (And.right (And.right (And.right (And.right (And.right (by assumption))))))))))))) | exact And.right (And.right (And.right (And.right (And.right (And.right (And.right (And.right (And.right (And.right (And.right (And.right (by assumption)))))))))))) | exact And.left (And.right (And.right (And.right (And.right (And.right (And.right (And.right (And.right (And.right (And.right (And.right (And.right (And.right (by assumption)))))))))))))) | exact And.right (And.right (And.right (And.right (And.right (And.right (And.right (And.right (And.right (And.right (And.right (And.right (And.right (by assumption))))))))))))) | exact And.left (And.right (And.right (And.right (And.right (And.right (And.right (And.right (And.right (And.right (And.right (And.right (And.right (And.right (And.right (by assumption))))))))))))))) | exact And.right (And.right (And.right (And.right (And.right (And.right (And.right (And.right (And.right (And.right (And.right (And.right (And.right (And.right (by assumption)))))))))))))) | exact And.left (And.right (And.right (And.right (And.right (And.right (And.right (And.right (And.right (And.right (And.right (And.right (And.right (And.right (And.right (And.right (by assumption)))))))))))))))) | exact And.right (And.right (And.right (And.right (And.right (And.right (And.right (And.right (And.right (And.right (And.right (And.right (And.right (And.right (And.right (by assumption))))))))))))))) | exact And.left (And.right (And.right (And.right (And.right (And.right (And.right (And.right (And.right (And.right (And.right (And.right (And.right (And.right (And.right (And.right (And.right (by assumption))))))))))))))))) | exact And.right (And.right (And.right (And.right (And.right (And.right (And.right (And.right (And.right (And.right (And.right (And.right (And.right (And.right (And.right (And.right (by assumption)))))))))))))))) | exact And.left (And.right (And.right (And.right (And.right (And.right (And.right (And.right (And.right (And.right (And.right (And.right (And.right (And.right (And.right (And.right (And.right (And.right (by assumption)))))))))))))))))) | exact And.right (And.right (And.right (And.right (And.right (And.right (And.right (And.right (And.right (And.right (And.right (And.right (And.right (And.right (And.right (And.right (And.right (by assumption))))))))))))))))))
  revert hret hL hu hd hk T N X F B
  k_fill
  intro B F X N T hk hd hu hL hret
  refine wpAny_call ?_
  k_dflt cell_enter
  k_steps
  all_goals (
    (refine' hret _ _ [Value.int _ _, Value.int _ _] _ _ _ _ ?i ?x ?y ?z ?f ?n ?l)
    case n => (k_asm)
    case f => (k_asm)
    case l => (exact allLt_of (by assumption))
    case i => (exact IntsAre.cons _ _ (IntsAre.cons _ _ IntsAre.nil))
    case x => (exact pool_nn _ _)
    case y => (exact fmod_lo _ (by decide))
    case z => (exact fmod_hi _ (by decide)))

end

section
theorem lead_S (w : World) (mean : ExcName → Option Value) (mg mb : Str → Option Value) (news : List (Addr × Obj)) (x : Int) (tx : Tok) (k c : Int) (h0 : 0 ≤ x) (h1 : x < 256) (e : leadOf x = some (k, c)) :
    Con w mean mg mb 76 [.int x tx] news 1 8 (fun G q => ∀ D t1 t2 n h' tk', G h' ((D, tup [.int k t1, .int c t2] n) :: news) → AllLt D news → q (.ref D) h' tk') := by
  intro dp un gd cn cs a ccd cl outer A₀ base h₀ L m s Q E B F X N T hk hd hu hret
  refine lead_of_con w mean mg mb news x tx h0 h1 dp un gd cn cs a ccd cl outer A₀ base h₀ L m s Q E B F X N T hk hd hu ⟨fun h => ?_, fun h => ?_, fun h h' => ?_, fun h h' => ?_, fun h h' => ?_⟩
  · rw [h] at e; cases e
  · rw [ld0 h] at e; cases e; exact hret
  · rw [ld1 h h'] at e; cases e; exact hret
  · rw [ld2 h h'] at e; cases e; exact hret
  · rw [ld3 h h'] at e; cases e; exact hret
theorem lead_N (w : World) (mean : ExcName → Option Value) (mg mb : Str → Option Value) (news : List (Addr × Obj)) (x : Int) (tx : Tok) (h0 : 0 ≤ x) (h1 : x < 256) (e : leadOf x = none) :
    Con w mean mg mb 76 [.int x tx] news 1 8 (fun G q => ∀ h' tk', G h' news → q .none h' tk') := by
  intro dp un gd cn cs a ccd cl outer A₀ base h₀ L m s Q E B F X N T hk hd hu hret
  refine lead_of_con w mean mg mb news x tx h0 h1 dp un gd cn cs a ccd cl outer A₀ base h₀ L m s Q E B F X N T hk hd hu ⟨fun h => ?_, fun h => ?_, fun h h' => ?_, fun h h' => ?_, fun h h' => ?_⟩
  · exact hret
  · rw [ld0 h] at e; cases e
  · rw [ld1 h h'] at e; cases e
  · rw [ld2 h h'] at e; cases e
  · rw [ld3 h h'] at e; cases e
theorem unrEndW_drop {h₀ : Heap} {L I : Addr} {o1 : Obj} {rest : (Str → Option Value) → List (Addr × Obj) → Prop} {s₁ : Shared} {h' : Heap} {tk : Nat} {m' : Str → Option Value} {pre post : List (Addr × Obj)}
    (F : Fr h₀ L h' m') (N : News h₀ L h' (pre ++ (I, o1) :: post)) (lt : ∀ p ∈ post, p.1 < I) (r : rest m' post) : UnrEndW h₀ L s₁ [(I, o1)] rest { s₁ with heap := h', toks := tk } :=
  ⟨h', tk, m', post, rfl, F, fun p hp => N p (List.mem_append.mpr (.inr hp)), fun p hp q hq => by
    rw [List.mem_singleton.mp hq]
    exact Nat.ne_of_lt (lt p hp), r⟩
section
variable {prog : Program} {w : World} {A : Around} {E : Value → Shared → Prop} {s : Shared} {env : Env} {h₀ : Heap} {target : PySem.Expr} {body : List Stmt} {Q : Flow → Shared → Prop}
theorem list_turns {ax : Addr} {its : Array Value} {vs : List Value} {n : Nat} {m₀ : Str → Option Value} {news : List (Addr × Obj)}
    (hh : A.handled = none) (F : Fr h₀ env.locals s.heap m₀) (N : News h₀ env.locals s.heap news) (hm : (ax, listOf its n) ∈ news) (hv : its = vs.toArray)
    (rest₀ : ∀ I : Addr, (∀ p ∈ news, p.1 < I) → ItemsRest prog w A E h₀ env target body Q s [(I, "list_iterator")] [(ax, listOf its n)] (vs.map .val) m₀ news) :
    wpAny (model prog w) A (pyIter (.ref ax)) (fun it s₂ => TurnsAt prog w A h₀ env target body Q E it s₂) E s := by
  subst hv
  exact iter_listTurns hh F N hm rfl rfl rest₀
end
section
variable {prog : Program} {w : World} {A : Around} {E : Value → Shared → Prop} {s : Shared} {env : Env} {h₀ : Heap} {target : PySem.Expr} {body : List Stmt} {Q : Flow → Shared → Prop}
/-- a loop over a made list whose turns leave the ledger as it was -/
theorem items_all {I : Addr} {news keep : List (Addr × Obj)} (G : Value → Prop) (hI : ∀ p ∈ news, p.1 < I) (hk : SubL keep news)
    (turn : ∀ v m h tk o (Qf : Flow → Shared → Prop), G v → Fr h₀ env.locals h m → News h₀ env.locals h ((I, o) :: news) →
      (∀ m' h' tk', Fr h₀ env.locals h' m' → News h₀ env.locals h' ((I, o) :: news) → Qf .next { s with heap := h', toks := tk' }) →
      wpAny (model prog w) A (assign target env v) (fun _ s₂ => wpAny (model prog w) A (execs body env) Qf E s₂) E { s with heap := h, toks := tk })
    (done : ∀ m h tk, Fr h₀ env.locals h m → News h₀ env.locals h news → Q .next { s with heap := h, toks := tk }) :
    ∀ (vs : List Value) (m : Str → Option Value), (∀ v ∈ vs, G v) → ItemsRest prog w A E h₀ env target body Q s [(I, "list_iterator")] keep (vs.map .val) m news
  | [], m, _ => ItemsRest.zero fun h tk F N => done m h tk F N
  | v :: vs, m, hv => ItemsRest.val fun h tk F => AllObj.cons fun o _ => AllObj.nil fun N =>
    turn v m h tk o _ (hv v (.head _)) F N fun m' h' tk' F' N' => ⟨h', tk', m', news, rfl, F', N', fun p hp q hq => by
      rw [List.mem_singleton.mp hq]
      exact Nat.ne_of_lt (hI p hp), hk, items_all G hI hk turn done vs m' fun u hu => hv u (.tail _ hu)⟩
/-- the same, with a word of the frame: a loop over a made list whose turns leave the ledger as it was -/
theorem items_inv {I : Addr} {news keep : List (Addr × Obj)} (G : Value → Prop) (Inv : (Str → Option Value) → Prop) (hI : ∀ p ∈ news, p.1 < I) (hk : SubL keep news)
    (turn : ∀ v m h tk o (Qf : Flow → Shared → Prop), G v → Inv m → Fr h₀ env.locals h m → News h₀ env.locals h ((I, o) :: news) →
      (∀ m' h' tk', Inv m' → Fr h₀ env.locals h' m' → News h₀ env.locals h' ((I, o) :: news) → Qf .next { s with heap := h', toks := tk' }) →
      wpAny (model prog w) A (assign target env v) (fun _ s₂ => wpAny (model prog w) A (execs body env) Qf E s₂) E { s with heap := h, toks := tk })
    (done : ∀ m h tk, Fr h₀ env.locals h m → News h₀ env.locals h news → Inv m → Q .next { s with heap := h, toks := tk }) :
    ∀ (vs : List Value) (m : Str → Option Value), Inv m → (∀ v ∈ vs, G v) → ItemsRest prog w A E h₀ env target body Q s [(I, "list_iterator")] keep (vs.map .val) m news
  | [], m, hm, _ => ItemsRest.zero fun h tk F N => done m h tk F N hm
  | v :: vs, m, hm, hv => ItemsRest.val fun h tk F => AllObj.cons fun o _ => AllObj.nil fun N =>
    turn v m h tk o _ (hv v (.head _)) hm F N fun m' h' tk' hm' F' N' => ⟨h', tk', m', news, rfl, F', N', fun p hp q hq => by
      rw [List.mem_singleton.mp hq]
      exact Nat.ne_of_lt (hI p hp), hk, items_inv G Inv hI hk turn done vs m' hm' fun u hu => hv u (.tail _ hu)⟩
end

end

section
def octF : Stmt := (PySem.Challenge.pw_xm0683_01.main.body.drop 20).headD (.Pass ⟨0, 0, 0, 0⟩)
def bodyX : Stmt → List Stmt
  | .FunctionDef _ _ b _ _ _ _ _ _ _ => b
  | .For _ _ b _ _ => b
  | _ => []
def scopeX : Stmt → Scope
  | .FunctionDef _ _ _ _ _ _ s _ _ _ => s
  | _ => { kind := .module, names := [], isGenerator := false, isCoroutine := false }
def targetX : Stmt → PySem.Expr
  | .For t _ _ _ _ => t
  | _ => .Constant .none 0 ⟨0, 0, 0, 0⟩
def octS : Scope := scopeX octF
def octFor : Stmt := ((bodyX octF).drop 1).headD (.Pass ⟨0, 0, 0, 0⟩)
def octBody : List Stmt := bodyX octFor
theorem ne_tups {prog : Program} {w : World} {A : Around} {E : Value → Shared → Prop} {s : Shared} {h₀ : Heap} {L P P2 : Addr} {k c : Int} {t1 t2 u1 u2 : Tok} {n1 n2 : Nat} {news : List (Addr × Obj)} {Q : Value → Shared → Prop}
    (N : News h₀ L s.heap news) (h1 : (P, tup [.int k t1, .int c t2] n1) ∈ news) (h2 : (P2, tup [.int k u1, .int c u2] n2) ∈ news) (hu : A.units + 64 < cLine) (h : Q (.bool false) s) :
    wpAny (model prog w) A (compareOp .NotEq (.ref P) (.ref P2)) Q E s := by
  refine ne_dataH (reads_tuple_at (N.get h1) rfl rfl (ReadsAll.cons (Reads.int _ _) (ReadsAll.cons (Reads.int _ _) ReadsAll.nil))) (reads_tuple_at (N.get h2) rfl rfl (ReadsAll.cons (Reads.int _ _) (ReadsAll.cons (Reads.int _ _) ReadsAll.nil))) rfl rfl hu ?_
  rw [show (!PyData.eqv (.tuple [.int k, .int c]) (.tuple [.int k, .int c])) = false by simp [PyData.eqv, PyData.eqvAll]]
  exact h
theorem foll_div (x : Int) : (decide (128 ≤ x ∧ x < 192) != (x.fdiv 64 == 2)) = false := by
  rw [Int.fdiv_eq_ediv_of_nonneg x (by decide)]
  rw [show (x / 64 == 2) = decide (x / 64 = 2) by rfl, show decide (128 ≤ x ∧ x < 192) = decide (x / 64 = 2) by rw [decide_eq_decide]; omega]
  simp
set_option maxRecDepth 100000 in
set_option maxHeartbeats 8000000 in
theorem octet_turn {w : World} {mean : ExcName → Option Value} {mg mb : Str → Option Value} {dp un : Nat} {gd : Option (List Code)} {cn : Str} {a : Addr} {ccd : Value} {outer : List Env} {A₀ : Around} {base h₀ : Heap} {L : Addr} {m : Str → Option Value} {s : Shared} {Qf : Flow → Shared → Prop} {E : Value → Shared → Prop}
    {I T' P : Addr} {o : Obj} {news : List (Addr × Obj)} {x k c : Int} {tx t1 t2 : Tok} {n n2 : Nat}
    (B : Below A₀ base outer h₀) (F : Fr h₀ L s.heap m) (X : (Mine.hd.heap_39 w.params).In h₀) (N : News h₀ L s.heap ((I, o) :: news))
    (T : Top Mine.hd.view_39 (looseW Mine.hd.view_39 [PySem.Str.ofString "RowsError", PySem.Str.ofString "LIMITS"]) mean mg mb h₀)
    (hd : dp + 2 < recursionLimit) (hu : un + 90 < cLine) (x0 : 0 ≤ x) (x1 : x < 256) (hm : (T', tup [.int x tx, .ref P] n) ∈ news) (hl : leadOf x = some (k, c)) (hp : (P, tup [.int k t1, .int c t2] n2) ∈ news)
    (ret : ∀ m' h' tk', Fr h₀ L h' m' → News h₀ L h' ((I, o) :: news) → Qf .next { s with heap := h', toks := tk' }) :
    wpAny (model (PySem.W.OpenLaw.row PySem.Challenge.rw_xm0683_01).prog w) (ktrTop dp un gd cn octS L a ccd [] outer) (assign (targetX octFor) (envX cn octS L a ccd []) (.ref T'))
      (fun _ s₂ => wpAny (model (PySem.W.OpenLaw.row PySem.Challenge.rw_xm0683_01).prog w) (ktrTop dp un gd cn octS L a ccd [] outer) (execs octBody (envX cn octS L a ccd [])) Qf E s₂) E s := by
  w_top off
  k_with_none
  k_with "UnrEnd" => ((first
    | (refine unrEnd_mid (pre := []) (by k_asm) (by k_asm) (by k_all) (by k_all) ?_; k_whole)
    | (refine unrEnd_mid (pre := [_]) (by k_asm) (by k_asm) (by k_all) (by k_all) ?_; k_whole)
    | (refine unrEnd_mid (pre := [_, _]) (by k_asm) (by k_asm) (by k_all) (by k_all) ?_; k_whole)
    | (refine unrEnd_mid (pre := [_, _, _]) (by k_asm) (by k_asm) (by k_all) (by k_all) ?_; k_whole)
    | (refine unrEnd_mid (pre := [_, _, _, _]) (by k_asm) (by k_asm) (by k_all) (by k_all) ?_; k_whole)); (try dsimp only [List.cons_append, List.nil_append]))
  k_with "mine.and" => (first | assumption | exact And.left (by assumption) | exact And.left (And.right (by assumption)) | exact And.right (by assumption) | exact And.left (And.right (And.right (by assumption))) | exact And.right (And.right (by assumption)) | exact And.left (And.right (And.right (And.right (by assumption)))) | exact And.right (And.right (And.right (by assumption))) | exact And.left (And.right (And.right (And.right (And.right (by assumption))))) | exact And.right (And.right (And.right (And.right (by assumption)))) | exact And.left (And.right (And.right (And.right (And.right (And.right (by assumption)))))) | exact And.right (And.right (And.right (And.right (And.right (by assumption))))) | exact And.left (And.right (And.right (And.right (And.right (And.right (And.right (by assumption))))))) | exact And.right (And.right (And.right (And.right (And.right (And.right (by assumption)))))) | exact And.left (And.right (And.right (And.right (And.right (And.right (And.right (And.right (by assumption)))))))) | exact And.right (And.right (And.right (And.right (And.right (And.right (And.right (by assumption))))))) | exact And.left (And.right (And.right (And.right (And.right (And.right (And.right (And.right (And.right (by assumption))))))))) | exact And.right (And.right (And.right (And.right (And.right (And.right (And.right (And.right (by assumption)))))))) | exact And.left (And.right (And.right (And.right (And.right (And.right (And.right (And.right (And.right (And.right (by assumption)))))))))) | exact And.right (And.right (And.right (And.right (And.right (And.right (And.right (And.right (And.right (by assumption))))))))) | exact And.left (And.right (And.right (And.right (And.right (And.right (And.right (And.right (And.right (And.right (And.right (by assumption))))))))))) | exact And.right (And.right (And.right (And.right (And.right (And.right (And.right (And.right (And.right (And.right (by assumption)))))))))) | exact And.left (And.right (And.right (And.right (And.right (And.right (And.right (And.right (And.right (And.right (And.right (And.right (by assumption)))))))))))) | exact And.right (And.right (And.right (And.right (And.right (And.right (And.right (And.right (And.right (And.right (And.right (by assumption))))))))))) | exact And.left (And.right (And.right (And.right (And.right (And.right (And.right (And.right (And.right (And.right (And.right (And.right (And.right (by assumption))))))))))))) | exact And.right (And.right (And.right (And.right (And.right (And.right (And.right (And.right (And.right (And.right (And.right (And.right (by assumption)))))))))))) | exact And.left (And.right (And.right (And.right (And.right (And.right (And.right (And.right (And.right (And.right (And.right (And.right (And.right (And.right (by assumption)))))))))))))) | exact And.right (And.right (And.right (And.right (And.right (And.right (And.right (And.right (And.right (And.right (And.right (And.right (And.right (by assumption))))))))))))) | exact And.left (And.right (And.right (And.right (And.right (And.right (And.right (And.right (And.right (And.right (And.right (And.right (And.right (And.right (And.right (by assumption))))))))))))))) | exact And.right (And.right (And.right (And.right (And.right (And.right (And.right (And.right (And.right (And.right (And.right (And.right (And.right (And.right (by assumption)))))))))))))) | exact And.left (And.right (And.right (And.right (And.right (And.right (And.right (And.right (And.right (And.right (And.right (And.right (And.right (And.right (And.right (And.right (by assumption)))))))))))))))) | exact And.right (And.right (And.right (And.right (And.right (And.right (And.right (And.right (And.right (And.right (And.right (And.right (And.right (And.right (And.right (by assumption))))))))))))))) | exact And.left (And.right (And.right (And.right (And.right (And.right (And.right (And.right (And.right (And.right (And.right (And.right (And.right (And.right (And.right (And.right (And.right (by assumption))))))))))))))))) | exact And.right (And.right (And.right (And.right (And.right (And.right (And.right (And.right (And.right (And.right (And.right (And.right (And.right (And.right (And.right (And.right (by assumption)))))))))))))))) | exact And.left (And.right (And.right (And.right (And.right (And.right (And.right (And.right (And.right (And.right (And.right (And.right (And.right (And.right (And.right (And.right (And.right (And.right (by assumption)))))))))))))))))) | exact And.right (And.right (And.right (And.right (And.right (And.right (And.right (And.right (And.right (And.right (And.right (And.right (And.right (And.right (And.right (And.right (And.right (by assumption))))))))))))))))))
  k_with "call ref" => (
    k_here
    (with_reducible show wpAny _ _ (call (Value.ref 83) [Value.int _ _]) _ _ _)
    k_dflt (refine con_app (by k_asm) (by k_asm) (by k_asm) (by k_asm) (by k_asm) (by exact rfl) (by ktr_room) (by ktr_units) (is_following_con _ _ _ _ _ _ _ (by assumption) (by assumption)) ?_)
    (try dsimp only)
    intros
    (with_reducible rename Fr _ _ _ _ ∧ News _ _ _ _ => hFN')
    (obtain ⟨F', N'⟩ := hFN')
    (try k_fold)
    (try k_sweep))
  k_with "call ref" => (
    k_here
    (with_reducible show wpAny _ _ (call (Value.ref 76) [Value.int _ _]) _ _ _)
    k_dflt (first
      | (refine con_app (by k_asm) (by k_asm) (by k_asm) (by k_asm) (by k_asm) (by exact rfl) (by ktr_room) (by ktr_units) (lead_S _ _ _ _ _ _ _ _ _ (by assumption) (by assumption) (by assumption)) ?_)
      | (refine con_app (by k_asm) (by k_asm) (by k_asm) (by k_asm) (by k_asm) (by exact rfl) (by ktr_room) (by ktr_units) (lead_N _ _ _ _ _ _ _ (by assumption) (by assumption) (by assumption)) ?_))
    (try dsimp only)
    intros
    (with_reducible rename Fr _ _ _ _ ∧ News _ _ _ _ => hFN')
    (obtain ⟨F', N'⟩ := hFN')
    (try k_fold)
    (try k_sweep))
  k_with "compareOp NotEq ref ref" => (k_here; k_dflt (refine ne_tups (by k_asm) (by exact List.Mem.head _) (List.Mem.tail _ (List.Mem.tail _ (by assumption))) (by ktr_units) ?_))
  k_with "assign Tuple" => (k_here; (with_reducible show wpAny _ _ (assign (PySem.Expr.Tuple _ _ _) _ (Value.ref _)) _ _ _); k_dflt (refine unpackN_ (by k_asm) (by k_asm) (News.isTup (by k_asm) (List.Mem.tail _ (by assumption))) (by exact rfl) (by exact rfl) (by exact rfl) ?_; k_whole); intro h' F' N'; (try k_sweep))
  revert ret hu hd T N X F B
  dsimp only [octF, octS, octFor, octBody, bodyX, scopeX, targetX, PySem.Challenge.pw_xm0683_01, List.drop, List.headD]
  k_fill
  intro B F X N T hd hu ret
  k_steps
  all_goals first
    | exact absurd ((foll_div x).symm.trans (by assumption)) (by decide)
    | exact ret _ _ _ (by k_asm) (by k_asm)
    | exact ret _ _ _ (by k_asm) (news_tl (by k_asm))
set_option maxRecDepth 100000 in
set_option maxHeartbeats 8000000 in
theorem octet_turnN {w : World} {mean : ExcName → Option Value} {mg mb : Str → Option Value} {dp un : Nat} {gd : Option (List Code)} {cn : Str} {a : Addr} {ccd : Value} {outer : List Env} {A₀ : Around} {base h₀ : Heap} {L : Addr} {m : Str → Option Value} {s : Shared} {Qf : Flow → Shared → Prop} {E : Value → Shared → Prop}
    {I T' : Addr} {o : Obj} {news : List (Addr × Obj)} {x : Int} {tx : Tok} {n : Nat}
    (B : Below A₀ base outer h₀) (F : Fr h₀ L s.heap m) (X : (Mine.hd.heap_39 w.params).In h₀) (N : News h₀ L s.heap ((I, o) :: news))
    (T : Top Mine.hd.view_39 (looseW Mine.hd.view_39 [PySem.Str.ofString "RowsError", PySem.Str.ofString "LIMITS"]) mean mg mb h₀)
    (hd : dp + 2 < recursionLimit) (hu : un + 90 < cLine) (x0 : 0 ≤ x) (x1 : x < 256) (hm : (T', tup [.int x tx, .none] n) ∈ news) (hl : leadOf x = none)
    (ret : ∀ m' h' tk', Fr h₀ L h' m' → News h₀ L h' ((I, o) :: news) → Qf .next { s with heap := h', toks := tk' }) :
    wpAny (model (PySem.W.OpenLaw.row PySem.Challenge.rw_xm0683_01).prog w) (ktrTop dp un gd cn octS L a ccd [] outer) (assign (targetX octFor) (envX cn octS L a ccd []) (.ref T'))
      (fun _ s₂ => wpAny (model (PySem.W.OpenLaw.row PySem.Challenge.rw_xm0683_01).prog w) (ktrTop dp un gd cn octS L a ccd [] outer) (execs octBody (envX cn octS L a ccd [])) Qf E s₂) E s := by
  w_top off
  k_with_none
  k_with "UnrEnd" => ((first
    | (refine unrEnd_mid (pre := []) (by k_asm) (by k_asm) (by k_all) (by k_all) ?_; k_whole)
    | (refine unrEnd_mid (pre := [_]) (by k_asm) (by k_asm) (by k_all) (by k_all) ?_; k_whole)
    | (refine unrEnd_mid (pre := [_, _]) (by k_asm) (by k_asm) (by k_all) (by k_all) ?_; k_whole)
    | (refine unrEnd_mid (pre := [_, _, _]) (by k_asm) (by k_asm) (by k_all) (by k_all) ?_; k_whole)
    | (refine unrEnd_mid (pre := [_, _, _, _]) (by k_asm) (by k_asm) (by k_all) (by k_all) ?_; k_whole)); (try dsimp only [List.cons_append, List.nil_append]))
  k_with "mine.and" => (first | assumption | exact And.left (by assumption) | exact And.left (And.right (by assumption)) | exact And.right (by assumption) | exact And.left (And.right (And.right (by assumption))) | exact And.right (And.right (by assumption)) | exact And.left (And.right (And.right (And.right (by assumption)))) | exact And.right (And.right (And.right (by assumption))) | exact And.left (And.right (And.right (And.right (And.right (by assumption))))) | exact And.right (And.right (And.right (And.right (by assumption)))) | exact And.left (And.right (And.right (And.right (And.right (And.right (by assumption)))))) | exact And.right (And.right (And.right (And.right (And.right (by assumption))))) | exact And.left (And.right (And.right (And.right (And.right (And.right (And.right (by assumption))))))) | exact And.right (And.right (And.right (And.right (And.right (And.right (by assumption)))))) | exact And.left (And.right (And.right (And.right (And.right (And.right (And.right (And.right (by assumption)))))))) | exact And.right (And.right (And.right (And.right (And.right (And.right (And.right (by assumption))))))) | exact And.left (And.right (And.right (And.right (And.right (And.right (And.right (And.right (And.right (by assumption))))))))) | exact And.right (And.right (And.right (And.right (And.right (And.right (And.right (And.right (by assumption)))))))) | exact And.left (And.right (And.right (And.right (And.right (And.right (And.right (And.right (And.right (And.right (by assumption)))))))))) | exact And.right (And.right (And.right (And.right (And.right (And.right (And.right (And.right (And.right (by assumption))))))))) | exact And.left (And.right (And.right (And.right (And.right (And.right (And.right (And.right (And.right (And.right (And.right (by assumption))))))))))) | exact And.right (And.right (And.right (And.right (And.right (And.right (And.right (And.right (And.right (And.right (by assumption)))))))))) | exact And.left (And.right (And.right (And.right (And.right (And.right (And.right (And.right (And.right (And.right (And.right (And.right (by assumption)))))))))))) | exact And.right (And.right (And.right (And.right (And.right (And.right (And.right (And.right (And.right (And.right (And.right (by assumption))))))))))) | exact And.left (And.right (And.right (And.right (And.right (And.right (And.right (And.right (And.right (And.right (And.right (And.right (And.right (by assumption))))))))))))) | exact And.right (And.right (And.right (And.right (And.right (And.right (And.right (And.right (And.right (And.right (And.right (And.right (by assumption)))))))))))) | exact And.left (And.right (And.right (And.right (And.right (And.right (And.right (And.right (And.right (And.right (And.right (And.right (And.right (And.right (by assumption)))))))))))))) | exact And.right (And.right (And.right (And.right (And.right (And.right (And.right (And.right (And.right (And.right (And.right (And.right (And.right (by assumption))))))))))))) | exact And.left (And.right (And.right (And.right (And.right (And.right (And.right (And.right (And.right (And.right (And.right (And.right (And.right (And.right (And.right (by assumption))))))))))))))) | exact And.right (And.right (And.right (And.right (And.right (And.right (And.right (And.right (And.right (And.right (And.right (And.right (And.right (And.right (by assumption)))))))))))))) | exact And.left (And.right (And.right (And.right (And.right (And.right (And.right (And.right (And.right (And.right (And.right (And.right (And.right (And.right (And.right (And.right (by assumption)))))))))))))))) | exact And.right (And.right (And.right (And.right (And.right (And.right (And.right (And.right (And.right (And.right (And.right (And.right (And.right (And.right (And.right (by assumption))))))))))))))) | exact And.left (And.right (And.right (And.right (And.right (And.right (And.right (And.right (And.right (And.right (And.right (And.right (And.right (And.right (And.right (And.right (And.right (by assumption))))))))))))))))) | exact And.right (And.right (And.right (And.right (And.right (And.right (And.right (And.right (And.right (And.right (And.right (And.right (And.right (And.right (And.right (And.right (by assumption)))))))))))))))) | exact And.left (And.right (And.right (And.right (And.right (And.right (And.right (And.right (And.right (And.right (And.right (And.right (And.right (And.right (And.right (And.right (And.right (And.right (by assumption)))))))))))))))))) | exact And.right (And.right (And.right (And.right (And.right (And.right (And.right (And.right (And.right (And.right (And.right (And.right (And.right (And.right (And.right (And.right (And.right (by assumption))))))))))))))))))
  k_with "call ref" => (
    k_here
    (with_reducible show wpAny _ _ (call (Value.ref 83) [Value.int _ _]) _ _ _)
    k_dflt (refine con_app (by k_asm) (by k_asm) (by k_asm) (by k_asm) (by k_asm) (by exact rfl) (by ktr_room) (by ktr_units) (is_following_con _ _ _ _ _ _ _ (by assumption) (by assumption)) ?_)
    (try dsimp only)
    intros
    (with_reducible rename Fr _ _ _ _ ∧ News _ _ _ _ => hFN')
    (obtain ⟨F', N'⟩ := hFN')
    (try k_fold)
    (try k_sweep))
  k_with "call ref" => (
    k_here
    (with_reducible show wpAny _ _ (call (Value.ref 76) [Value.int _ _]) _ _ _)
    k_dflt (first
      | (refine con_app (by k_asm) (by k_asm) (by k_asm) (by k_asm) (by k_asm) (by exact rfl) (by ktr_room) (by ktr_units) (lead_S _ _ _ _ _ _ _ _ _ (by assumption) (by assumption) (by assumption)) ?_)
      | (refine con_app (by k_asm) (by k_asm) (by k_asm) (by k_asm) (by k_asm) (by exact rfl) (by ktr_room) (by ktr_units) (lead_N _ _ _ _ _ _ _ (by assumption) (by assumption) (by assumption)) ?_))
    (try dsimp only)
    intros
    (with_reducible rename Fr _ _ _ _ ∧ News _ _ _ _ => hFN')
    (obtain ⟨F', N'⟩ := hFN')
    (try k_fold)
    (try k_sweep))
  k_with "compareOp NotEq ref ref" => (k_here; k_dflt (refine ne_tups (by k_asm) (by exact List.Mem.head _) (List.Mem.tail _ (List.Mem.tail _ (by assumption))) (by ktr_units) ?_))
  k_with "assign Tuple" => (k_here; (with_reducible show wpAny _ _ (assign (PySem.Expr.Tuple _ _ _) _ (Value.ref _)) _ _ _); k_dflt (refine unpackN_ (by k_asm) (by k_asm) (News.isTup (by k_asm) (List.Mem.tail _ (by assumption))) (by exact rfl) (by exact rfl) (by exact rfl) ?_; k_whole); intro h' F' N'; (try k_sweep))
  revert ret hu hd T N X F B
  dsimp only [octF, octS, octFor, octBody, bodyX, scopeX, targetX, PySem.Challenge.pw_xm0683_01, List.drop, List.headD]
  k_fill
  intro B F X N T hd hu ret
  k_steps
  all_goals first
    | exact absurd ((foll_div x).symm.trans (by assumption)) (by decide)
    | exact ret _ _ _ (by k_asm) (by k_asm)
    | exact ret _ _ _ (by k_asm) (news_tl (by k_asm))
def OctG (news : List (Addr × Obj)) (v : Value) : Prop := ∃ T x tx n, v = .ref T ∧ 0 ≤ x ∧ x < 256 ∧
  ((leadOf x = none ∧ (T, tup [.int x tx, .none] n) ∈ news) ∨ ∃ P k c t1 t2 n2, leadOf x = some (k, c) ∧ (T, tup [.int x tx, .ref P] n) ∈ news ∧ (P, tup [.int k t1, .int c t2] n2) ∈ news)
theorem octG_N {news : List (Addr × Obj)} {T : Addr} {x : Int} {tx : Tok} {n : Nat} (hl : (leadOf x, decide (0 ≤ x), decide (x < 256)) = (none, true, true)) (h : (T, tup [.int x tx, .none] n) ∈ news) : OctG news (.ref T) :=
  ⟨T, x, tx, n, rfl, of_decide_eq_true (congrArg (·.2.1) hl), of_decide_eq_true (congrArg (·.2.2) hl), .inl ⟨congrArg (·.1) hl, h⟩⟩
theorem octG_S {news : List (Addr × Obj)} {T P : Addr} {x k c : Int} {tx t1 t2 : Tok} {n n2 : Nat} (hl : (leadOf x, decide (0 ≤ x), decide (x < 256)) = (some (k, c), true, true)) (h : (T, tup [.int x tx, .ref P] n) ∈ news) (hp : (P, tup [.int k t1, .int c t2] n2) ∈ news) : OctG news (.ref T) :=
  ⟨T, x, tx, n, rfl, of_decide_eq_true (congrArg (·.2.1) hl), of_decide_eq_true (congrArg (·.2.2) hl), .inr ⟨P, k, c, t1, t2, n2, congrArg (·.1) hl, h, hp⟩⟩
theorem octets_items {w : World} {mean : ExcName → Option Value} {mg mb : Str → Option Value} {dp un : Nat} {gd : Option (List Code)} {cn : Str} {a : Addr} {ccd : Value} {outer : List Env} {A₀ : Around} {base h₀ : Heap} {L : Addr} {m : Str → Option Value} {s : Shared} {Q : Flow → Shared → Prop} {E : Value → Shared → Prop}
    {I : Addr} {news keep : List (Addr × Obj)} {vs : List Value} {env : Env} {A : Around} {tgt : PySem.Expr} {body : List Stmt}
    (htg : tgt = targetX octFor) (hbd : body = octBody) (henv : env = envX cn octS L a ccd []) (hA : A = ktrTop dp un gd cn octS L a ccd [] outer) (hI : ∀ p ∈ news, p.1 < I) (hk : SubL keep news) (B : Below A₀ base outer h₀) (X : (Mine.hd.heap_39 w.params).In h₀)
    (T : Top Mine.hd.view_39 (looseW Mine.hd.view_39 [PySem.Str.ofString "RowsError", PySem.Str.ofString "LIMITS"]) mean mg mb h₀)
    (hd : dp + 2 < recursionLimit) (hu : un + 90 < cLine) (hv : ∀ v ∈ vs, OctG news v)
    (done : ∀ m h tk, Fr h₀ L h m → News h₀ L h news → Q .next { s with heap := h, toks := tk }) :
    ItemsRest (PySem.W.OpenLaw.row PySem.Challenge.rw_xm0683_01).prog w A E h₀ env tgt body Q s [(I, "list_iterator")] keep (vs.map .val) m news := by
  subst htg hbd henv hA
  refine items_all (env := envX cn octS L a ccd []) (OctG news) hI hk ?_ done vs m hv
  rintro v m h tk o Qf ⟨T', x, tx, n, rfl, x0, x1, ⟨hl, hm⟩ | ⟨P, k, c, t1, t2, n2, hl, hm, hp⟩⟩ F N ret
  · with_reducible exact octet_turnN (s := { s with heap := h, toks := tk }) B F X N T hd hu x0 x1 hm hl ret
  · with_reducible exact octet_turn (s := { s with heap := h, toks := tk }) B F X N T hd hu x0 x1 hm hl hp ret
set_option maxRecDepth 100000 in
set_option maxHeartbeats 8000000 in
theorem octets_con (w : World) (mean : ExcName → Option Value) (mg mb : Str → Option Value) (news : List (Addr × Obj)) :
    Con w mean mg mb 132 [] news 3 100 (fun G q => ∀ h' tk', G h' news → q (.bool true) h' tk') := by
  w_top off
  k_with_none
  k_with "UnrEnd" => ((first
    | (refine unrEnd_mid (pre := []) (by k_asm) (by k_asm) (by k_all) (by k_all) ?_; k_whole)
    | (refine unrEnd_mid (pre := [_]) (by k_asm) (by k_asm) (by k_all) (by k_all) ?_; k_whole)
    | (refine unrEnd_mid (pre := [_, _]) (by k_asm) (by k_asm) (by k_all) (by k_all) ?_; k_whole)
    | (refine unrEnd_mid (pre := [_, _, _]) (by k_asm) (by k_asm) (by k_all) (by k_all) ?_; k_whole)
    | (refine unrEnd_mid (pre := [_, _, _, _]) (by k_asm) (by k_asm) (by k_all) (by k_all) ?_; k_whole)); (try dsimp only [List.cons_append, List.nil_append]))
  k_with "mine.and" => (first | assumption | exact And.left (by assumption) | exact And.left (And.right (by assumption)) | exact And.right (by assumption) | exact And.left (And.right (And.right (by assumption))) | exact And.right (And.right (by assumption)) | exact And.left (And.right (And.right (And.right (by assumption)))) | exact And.right (And.right (And.right (by assumption))) | exact And.left (And.right (And.right (And.right (And.right (by assumption))))) | exact And.right (And.right (And.right (And.right (by assumption)))) | exact And.left (And.right (And.right (And.right (And.right (And.right (by assumption)))))) | exact And.right (And.right (And.right (And.right (And.right (by assumption))))) | exact And.left (And.right (And.right (And.right (And.right (And.right (And.right (by assumption))))))) | exact And.right (And.right (And.right (And.right (And.right (And.right (by assumption)))))) | exact And.left (And.right (And.right (And.right (And.right (And.right (And.right (And.right (by assumption)))))))) | exact And.right (And.right (And.right (And.right (And.right (And.right (And.right (by assumption))))))) | exact And.left (And.right (And.right (And.right (And.right (And.right (And.right (And.right (And.right (by assumption))))))))) | exact And.right (And.right (And.right (And.right (And.right (And.right (And.right (And.right (by assumption)))))))) | exact And.left (And.right (And.right (And.right (And.right (And.right (And.right (And.right (And.right (And.right (by assumption)))))))))) | exact And.right (And.right (And.right (And.right (And.right (And.right (And.right (And.right (And.right (by assumption))))))))) | exact And.left (And.right (And.right (And.right (And.right (And.right (And.right (And.right (And.right (And.right (And.right (by assumption))))))))))) | exact And.right (And.right (And.right (And.right (And.right (And.right (And.right (And.right (And.right (And.right (by assumption)))))))))) | exact And.left (And.right (And.right (And.right (And.right (And.right (And.right (And.right (And.right (And.right (And.right (And.right (by assumption)))))))))))) | exact And.right (And.right (And.right (And.right (And.right (And.right (And.right (And.right (And.right (And.right (And.right (by assumption))))))))))) | exact And.left (And.right (And.right (And.right (And.right (And.right (And.right (And.right (And.right (And.right (And.right (And.right (And.right (by assumption))))))))))))) | exact And.right (And.right (And.right (And.right (And.right (And.right (And.right (And.right (And.right (And.right (And.right (And.right (by assumption)))))))))))) | exact And.left (And.right (And.right (And.right (And.right (And.right (And.right (And.right (And.right (And.right (And.right (And.right (And.right (And.right (by assumption)))))))))))))) | exact And.right (And.right (And.right (And.right (And.right (And.right (And.right (And.right (And.right (And.right (And.right (And.right (And.right (by assumption))))))))))))) | exact And.left (And.right (And.right (And.right (And.right (And.right (And.right (And.right (And.right (And.right (And.right (And.right (And.right (And.right (And.right (by assumption))))))))))))))) | exact And.right (And.right (And.right (And.right (And.right (And.right (And.right (And.right (And.right (And.right (And.right (And.right (And.right (And.right (by assumption)))))))))))))) | exact And.left (And.right (And.right (And.right (And.right (And.right (And.right (And.right (And.right (And.right (And.right (And.right (And.right (And.right (And.right (And.right (by assumption)))))))))))))))) | exact And.right (And.right (And.right (And.right (And.right (And.right (And.right (And.right (And.right (And.right (And.right (And.right (And.right (And.right (And.right (by assumption))))))))))))))) | exact And.left (And.right (And.right (And.right (And.right (And.right (And.right (And.right (And.right (And.right (And.right (And.right (And.right (And.right (And.right (And.right (And.right (by assumption))))))))))))))))) | exact And.right (And.right (And.right (And.right (And.right (And.right (And.right (And.right (And.right (And.right (And.right (And.right (And.right (And.right (And.right (And.right (by assumption)))))))))))))))) | exact And.left (And.right (And.right (And.right (And.right (And.right (And.right (And.right (And.right (And.right (And.right (And.right (And.right (And.right (And.right (And.right (And.right (And.right (by assumption)))))))))))))))))) | exact And.right (And.right (And.right (And.right (And.right (And.right (And.right (And.right (And.right (And.right (And.right (And.right (And.right (And.right (And.right (And.right (And.right (by assumption))))))))))))))))))
  k_with "exec For Tuple BinOp cons nil" => (k_here; (rename Fr _ _ _ _ => lF'); (with_unfolding_all refine' For_turns lF' ?_; k_whole))
  k_with "pyIter ref" => (
    k_here
    (with_reducible show wpAny _ _ (pyIter (Value.ref _)) (fun it s₂ => TurnsAt _ _ _ _ _ _ _ _ _ it s₂) _ _)
    (with_unfolding_all refine list_turns (by rfl) (by k_asm) (by k_asm) (by k_mem) (by exact rfl) ?_)
    intro i' l1
    (with_reducible refine octets_items (by k_dflt (exact rfl)) (by k_dflt (exact rfl)) (by k_dflt (exact rfl)) (by k_dflt (exact rfl)) l1 (by k_dflt k_subL) (by k_asm) (by k_asm) (by k_asm) (by ktr_room) (by ktr_units) (by k_dflt (exact List.forall_mem_cons.mpr ⟨by first | exact octG_N (h := by k_mem) (hl := by exact rfl) | exact octG_S rfl (by k_mem) (by k_mem), List.forall_mem_cons.mpr ⟨by first | exact octG_N rfl (by k_mem) | exact octG_S rfl (by k_mem) (by k_mem), List.forall_mem_cons.mpr ⟨by first | exact octG_N rfl (by k_mem) | exact octG_S rfl (by k_mem) (by k_mem), List.forall_mem_cons.mpr ⟨by first | exact octG_N rfl (by k_mem) | exact octG_S rfl (by k_mem) (by k_mem), List.forall_mem_cons.mpr ⟨by first | exact octG_N rfl (by k_mem) | exact octG_S rfl (by k_mem) (by k_mem), List.forall_mem_cons.mpr ⟨by first | exact octG_N rfl (by k_mem) | exact octG_S rfl (by k_mem) (by k_mem), List.forall_mem_cons.mpr ⟨by first | exact octG_N rfl (by k_mem) | exact octG_S rfl (by k_mem) (by k_mem), List.forall_mem_cons.mpr ⟨by first | exact octG_N rfl (by k_mem) | exact octG_S rfl (by k_mem) (by k_mem), List.forall_mem_cons.mpr ⟨by first | exact octG_N rfl (by k_mem) | exact octG_S rfl (by k_mem) (by k_mem), List.forall_mem_cons.mpr ⟨by first | exact octG_N rfl (by k_mem) | exact octG_S rfl (by k_mem) (by k_mem), List.forall_mem_cons.mpr ⟨by first | exact octG_N rfl (by k_mem) | exact octG_S rfl (by k_mem) (by k_mem), List.forall_mem_cons.mpr ⟨by first | exact octG_N rfl (by k_mem) | exact octG_S rfl (by k_mem) (by k_mem), List.forall_mem_nil _⟩⟩⟩⟩⟩⟩⟩⟩⟩⟩⟩⟩)) ?_)
    intro m' h' tk' F' N'
    (try k_sweep))
  dsimp only [Con]
  k_fill
  intro dp un gd cn cs a ccd cl outer A₀ base h₀ L m s Q E B F X N T hk hd hu hret
  refine wpAny_call ?_
  k_dflt cell_enter
  k_steps
  all_goals exact hret _ _ ⟨by k_asm, by exact cb_drop (by k_asm) (by intro p hp; repeat (first | exact hp | apply List.mem_cons_of_mem))⟩

end

section
abbrev excO (C t : Addr) (d : Option Addr) : Obj := { cls := .ref C, dict := d, data := .fields #[.ref t, .none, .none, .none, .bool false, .none] }
section
open Builtin Builtin.ObjectAttr
variable {prog : Program} {w : World} {A : Around} {R : Result → Shared → Prop} {h : Heap} {g : Array GenState} {d : Drawn} {t : Nat} {os : OsState}
variable {nm q : Str} {C Nc : Addr} {bs bm : List Value} {hdct : Bool} {sn : List Str} {sub : List Value} {ab : Bool} {col : Option Bool} {dd : Option Addr} {k0 k1 k2 k3 k5 : Option Value}
theorem exc_new {rest : List Value} (hC : h.get? C = some (excClassObj nm q C Nc bs bm hdct sn sub ab col dd k0 k1 k2 k3 k5 "Exception.__new__"))
    (eB : bm.contains (.type "Exception") = true) (eA : bm.contains (.type "AttributeError") = false) (eN : bm.contains (.type "NameError") = false)
    (hq : R (.ok (.ret (.ref (h.objs.size + 1)))) ⟨(h.push (tup rest 0)).push (excO C h.objs.size none), g, d, t, os⟩) (hrest : rest.length ≤ sizeLine) :
    codeAny (model prog w) A (.builtin "Exception.__new__" ⟨.ref C :: rest, []⟩) R ⟨h, g, d, t, os⟩ := by
  have Fn := PySem.F.excBase_Exception
  have hends := Fn.ends
  have hcB : (Value.ref C :: bm).contains (.type "Exception") = true := by rw [List.contains_cons, eB, Bool.or_true]
  have hcA : (Value.ref C :: bm).contains (.type "AttributeError") = false := by rw [List.contains_cons, eA]; rfl
  have hcN : (Value.ref C :: bm).contains (.type "NameError") = false := by rw [List.contains_cons, eN]; rfl
  refine codeAny_builtinAt Fn.entry ?_
  unfold Builtin.«BaseException.__new__»
  refine PySem.wpAt_bind ?_
  show PySem.wpAt _ _ _ (stack >>= _) _ _ _
  refine PySem.wpAt_bind (PySem.wpAt_stack fun p below => PySem.wpAt_of_wpAny ?_)
  wp_walk
  refine PySem.wpAt_of_wpAny ?_
  rw [Fn.owner]
  repeat (first | with_reducible refine wpAny_madeHere_exc Fn.canon hC ?_ | with_reducible refine wpAny_loadPart_at hC ?_ | (with_reducible refine wpAny_isSubtype_exc hC ?_; first | rw [hcB] | rw [hcA] | rw [hcN]) | wp_step)
  show R _ _
  rw [Heap.size_push]
  exact hq

theorem exc_tcall {rest : List Value} {fI : Addr} {E : Value → Shared → Prop} {Q : Fin → Shared → Prop} {K : Frag} (X : K.In h)
    (hC : h.get? C = some (excClassObj nm q C Nc bs bm hdct sn sub ab col dd k0 k1 k2 k3 k5 "Exception.__new__"))
    (eB : bm.contains (.type "Exception") = true) (eA : bm.contains (.type "AttributeError") = false) (eN : bm.contains (.type "NameError") = false)
    (hi : findIn K (.ref C) "__init__" = some (some (.ref fI))) (hf : typeIn K (.ref fI) = some (.type "function"))
    (hq : wpAny (model prog w) A (call (.ref fI) (.ref (h.objs.size + 1) :: rest)) (fun r s' => r = .none ∧ Q (.done (.ret (.ref (h.objs.size + 1)))) s') E ⟨(h.push (tup rest 0)).push (excO C h.objs.size none), g, d, t, os⟩) (hrest : rest.length ≤ sizeLine) :
    wpAny (model prog w) A (Builtin.«type.__call__» ⟨.ref C :: rest, []⟩) Q E ⟨h, g, d, t, os⟩ := by
  have Fn := PySem.F.excBase_Exception
  repeat (first | with_reducible refine wpAny_loadPart_at hC ?_ | with_reducible refine wpAny_madeBy_exc hC ?_ | wp_step)
  refine codeAny_call_builtin_code (Code.quiet_builtin _ Fn.quiet) (wpAny_check_new_subU Fn eB OwnTail.base hC ?_)
  refine exc_new hC eB eA eN ?_ hrest
  show wpAny _ _ _ _ _ _
  have kp : ∀ b o, h.get? b = some o → ((h.push (tup rest 0)).push (excO C h.objs.size none)).get? b = some o := fun b o e => Heap.get?_push_of_some _ (Heap.get?_push_of_some _ e)
  have hC₁ := kp _ _ hC
  have X₁ : K.In ((h.push (tup rest 0)).push (excO C h.objs.size none)) := X.keeps kp
  have hget : ((h.push (tup rest 0)).push (excO C h.objs.size none)).get? (h.objs.size + 1) = some (excO C h.objs.size none) := by heap_get
  have hcC : (Value.ref C :: bm).contains (.ref C) = true := by simp
  unfold isInstance
  repeat (first | with_reducible refine wpAny_loadPart_at hget ?_ | (with_reducible refine wpAny_isSubtype_exc hC₁ ?_; rw [hcC]) | wp_step)
  show wpAny _ _ (typeLookup (.ref C) _) _ _ _
  refine (looks_findIn X₁ hi).here ?_
  refine wpAny_holding (wpAny_bind ?_)
  refine (bind_fn X₁ _ hf).here ?_
  refine wpAny_bind (wpAny_mono hq (fun r s' hr => ?_) fun _ _ x => x)
  obtain ⟨rfl, hQ⟩ := hr
  wp_walk
  exact hQ

theorem exc_call {rest : List Value} {fI : Addr} {E : Value → Shared → Prop} {Q : Value → Shared → Prop} {K : Frag} {s : Shared} {h₀ : Heap} {L : Addr} {m : Str → Option Value} {news : List (Addr × Obj)}
    (F : Fr h₀ L s.heap m) (X₀ : K.In h₀) (N : News h₀ L s.heap news)
    (hC : K.lookup C = some (excClassObj nm q C Nc bs bm hdct sn sub ab col dd k0 k1 k2 k3 k5 "Exception.__new__"))
    (eB : bm.contains (.type "Exception") = true) (eA : bm.contains (.type "AttributeError") = false) (eN : bm.contains (.type "NameError") = false)
    (hi : findIn K (.ref C) "__init__" = some (some (.ref fI))) (hf : typeIn K (.ref fI) = some (.type "function"))
    (hq : ∀ e t' h', Fr h₀ L h' m → News h₀ L h' ((e, excO C t' none) :: (t', tup rest 0) :: news) → (∀ p ∈ (t', tup rest 0) :: news, p.1 < e) →
      wpAny (model prog w) (A.under (.builtin "type.__call__" ⟨.ref C :: rest, []⟩)) (call (.ref fI) (.ref e :: rest)) (fun r s' => r = .none ∧ Q (.ref e) s') E { s with heap := h' }) (hrest : rest.length ≤ sizeLine) :
    wpAny (model prog w) A (call (.ref C) rest) Q E s := by
  obtain ⟨h, g, d, t, os⟩ := s
  have X : K.In h := X₀.keeps F.keep
  have hC' := X _ _ hC
  have f1 := tc_lookup
  have f2 := tc_bind (.ref C)
  have hT : (⟨h, g, d, t, os⟩ : Shared).TypeIs (.ref C) "type" := ⟨_, hC', rfl⟩
  refine wpAny_call (codeAny_of_tree ?_)
  show wpAny _ _ (callAny (.ref C) _) _ _ _
  repeat (any_goals (first | assumption | with_reducible refine wpAny_loadPart_at hC' ?_ | wp_step))
  refine ⟨rfl, ?_⟩
  have N' := (N.push F (tup rest 0)).push (F.push _) (excO C h.objs.size none)
  rw [Heap.size_push] at N'
  exact codeAny_call_builtin_at (Code.quiet_builtin _ (by decide +kernel)) entry_typeCall (wpAny_check_type_call_sub hC' (exc_tcall X hC' eB eA eN hi hf
    (hq _ h.objs.size _ ((F.push _).push _) N' (fun p hp => by
      rcases List.mem_cons.mp hp with rfl | hp
      · exact Nat.lt_succ_self _
      · exact Nat.lt_succ_of_lt (Heap.lt_size (N p hp).1))) hrest))
end
section
open Builtin Builtin.ObjectAttr
variable {prog : Program} {w : World} {A : Around} {E : Value → Shared → Prop} {s : Shared} {K : Frag} {C x L : Addr} {h₀ : Heap} {m : Str → Option Value} {R : Result → Shared → Prop} {name : Str} {tk : Tok} {v : Value} {cd : ClassData}
theorem exc_osa {ox : Obj} {od : Option Obj} (X : K.In s.heap) (I : InstAt s.heap x ox C od) (hc : clsIn K C = some cd) (hs : mroIn K C (.type "object") = some true)
    (hp : ∀ self : Value, refuseLoop self "__setattr__" cd.mro = pure ()) (ht : findIn K (.ref C) name = some none)
    (h : wpAny (model prog w) A.in1 (storeInOwnDict (.ref x) (.ref C) (.str name tk) name v false)
      (fun fin s' => match fin with | .done f => R (.ok f) s' | .again c' => c'.quiet = true ∧ codeAny (model prog w) A c' R s') (fun e s' => R (.error e) s') s) :
    codeAny (model prog w) A (.call (.builtin "object.__setattr__") ⟨[.ref x, .str name tk, v], []⟩) R s := by
  have SF := PySem.F.store_object
  have sb : Looks (model prog w) s.heap (isInstance (.ref x) (.type "object")) true := I.type.andThen (looks_mroIn X hs)
  refine codeAny_call_builtin SF.slot.plain SF.entry (@check_slot (model prog w) _ _ s "object.__setattr__" "object" "__setattr__" (.ref x) [.str name tk, v] [] _ SF.kind SF.split sb (SF.args (.ref x) (.str name tk) v) ?_)
  have hm : Looks (model prog w) s.heap (mroOf (.ref C)) cd.mro := (looks_clsIn X hc).andThen .now
  rw [osa_eq, refuse_eq]
  refine wpAny_bind (wpAny_bind (I.type.here (wpAny_bind (hm.here ?_))))
  rw [hp]
  refine wpAny_pure (wpAny_bind (I.type.here (wpAny_bind ((looks_findIn X ht).here (wpAny_bind ((Looks.now (a := (none : Option Value))).here ?_))))))
  exact h

theorem exc_set1 {t : Addr} {Q : Unit → Shared → Prop} {pre post : List (Addr × Obj)} (F : Fr h₀ L s.heap m) (X₀ : K.In h₀) (N : News h₀ L s.heap (pre ++ (x, excO C t none) :: post))
    (hc : clsIn K C = some cd) (hd : cd.hasDict = true) (hs : mroIn K C (.type "object") = some true) (hp : ∀ self : Value, refuseLoop self "__setattr__" cd.mro = pure ())
    (h1 : ∀ p ∈ pre, p.1 ≠ x) (h2 : ∀ p ∈ post, p.1 ≠ x) (ha : findIn K (.ref C) "__setattr__" = some (some (.builtin "object.__setattr__"))) (ht : findIn K (.ref C) name = some none)
    (h : ∀ dx h' tk', Fr h₀ L h' m → News h₀ L h' ((dx, dictOf [⟨PyData.keyHash w.params name, .str name (s.toks + 1), v⟩] 1) :: (pre ++ (x, excO C t (some dx)) :: post)) →
      (∀ p ∈ pre ++ (x, excO C t none) :: post, p.1 < dx) → Q () { s with heap := h', toks := tk' }) :
    wpAny (model prog w) A (setAttr (.ref x) name v) Q E s := by
  have X := X₀.keeps F.keep
  have I : InstAt s.heap x (excO C t none) C none := ⟨(N (x, excO C t none) (by simp)).1, rfl, rfl, trivial⟩
  refine set_plain X I ha (exc_osa (s := { s with toks := s.toks + 1 }) X I hc hs hp ht ?_)
  have hx := I.at_
  refine wpAny_bind (wpAny_pure (wpAny_bind (wpAny_bind (wpAny_loadPart hx (wpAny_bind (looks_clsIn X hc _ _ _ _ (fun _ _ e => e) ?_))))))
  rw [hd]
  have F1 := F.push (dictOf [] 0)
  have N1 := N.push F (dictOf [] 0)
  have e0 : ∀ p ∈ pre ++ (x, excO C t none) :: post, p.1 < s.heap.objs.size := fun p hp => Heap.lt_size (N p hp).1
  have nx : s.heap.objs.size ≠ x := Nat.ne_of_gt (e0 (x, excO C t none) (by simp))
  obtain ⟨U1, U2⟩ := news_upd (pre := (s.heap.objs.size, dictOf [] 0) :: pre) (f := fun o => { o with dict := some s.heap.objs.size }) F1 N1
    (fun p hp => by rcases List.mem_cons.mp hp with rfl | hp; exact nx; exact h1 p hp) h2 (rfl : _ = excO C t (some s.heap.objs.size)) rfl
  have D1 := (U2 (s.heap.objs.size, dictOf [] 0) (by simp)).1
  obtain ⟨V1, V2⟩ := news_upd (pre := []) (f := Obj.putName name (PyData.keyHash w.params name) (.str name (s.toks + 1)) v) U1 U2 (fun _ hp => nomatch hp)
    (fun p hp => by
      rcases List.mem_append.mp hp with hp | hp
      · exact Nat.ne_of_lt (e0 p (List.mem_append.mpr (.inl hp)))
      · rcases List.mem_cons.mp hp with rfl | hp
        · exact nx.symm
        · exact Nat.ne_of_lt (e0 p (List.mem_append.mpr (.inr (.tail _ hp))))) (putName_dict _ _ _ _ _ _) rfl
  have D2 := (V2 (s.heap.objs.size, _) (.head _)).1
  have hx1 : (s.heap.push (dictOf [] 0)).get? x = some (excO C t none) := Heap.get?_push_of_some _ hx
  refine wpAny_bind (wpAny_alloc ?_)
  refine wpAny_bind (wpAny_update hx1 (wpAny_pure (a := some s.heap.objs.size) (wpAny_bind ?_)))
  refine wpAny_pure (wpAny_bind ?_)
  unfold nsSet
  refine wpAny_bind (wpAny_bind (wpAny_askSetting (wpAny_pure (wpAny_bind (wpAny_mkText (wpAny_bind (wpAny_loadPart D1 ?_)))))))
  dsimp only
  rw [aRefKeyMayBeTheName_at, show (!(([] : List DictEntry).toArray).any (·.key.isStr name) && (([] : List DictEntry).toArray).any (·.refKey)) = false by simp]
  refine wpAny_updatePart D1 ?_
  refine wpAny_bind (wpAny_lookBehind D2 (pastItsLine_dict (by simp [sizeLine_eq, putL])) ?_)
  exact wpAny_pure (h _ _ _ V1 V2 e0)
end
section
open Builtin Builtin.ObjectAttr
variable {prog : Program} {w : World} {A : Around} {E : Value → Shared → Prop} {s : Shared} {K : Frag} {C x L : Addr} {h₀ : Heap} {m : Str → Option Value} {R : Result → Shared → Prop} {name : Str} {tk : Tok} {v : Value} {cd : ClassData}
variable {nm q : Str} {Nc : Addr} {bs bm : List Value} {hdct : Bool} {sn : List Str} {sub : List Value} {ab : Bool} {col : Option Bool} {dd : Option Addr} {k0 k1 k2 k3 k5 : Option Value}
theorem exc_set2 {t dx : Addr} {Q : Unit → Shared → Prop} {es es' : List DictEntry} {n n' : Nat} {news : List (Addr × Obj)} (F : Fr h₀ L s.heap m) (X₀ : K.In h₀) (N : News h₀ L s.heap ((dx, dictOf es n) :: news)) (hx : (x, excO C t (some dx)) ∈ news)
    (hc : clsIn K C = some cd) (hd : cd.hasDict = true) (hs : mroIn K C (.type "object") = some true) (hp : ∀ self : Value, refuseLoop self "__setattr__" cd.mro = pure ())
    (h2 : ∀ p ∈ news, p.1 ≠ dx) (ha : findIn K (.ref C) "__setattr__" = some (some (.builtin "object.__setattr__"))) (ht : findIn K (.ref C) name = some none)
    (hl : (getL name es).isSome = true) (e : (putL name (PyData.keyHash w.params name) (.str name (s.toks + 1)) v es, putN name es n) = (es', n')) (hz : es'.length ≤ 1000)
    (h : ∀ h' tk', Fr h₀ L h' m → News h₀ L h' ((dx, dictOf es' n') :: news) → Q () { s with heap := h', toks := tk' }) :
    wpAny (model prog w) A (setAttr (.ref x) name v) Q E s := by
  obtain ⟨e1, e2⟩ := Prod.mk.inj e
  have X := X₀.keeps F.keep
  have D := (N (dx, dictOf es n) (.head _)).1
  have I : InstAt s.heap x (excO C t (some dx)) C (some (dictOf es n)) := ⟨(N _ (.tail _ hx)).1, rfl, rfl, D⟩
  refine set_plain X I ha (exc_osa (s := { s with toks := s.toks + 1 }) X I hc hs hp ht ?_)
  refine wpAny_bind (wpAny_pure (wpAny_bind (wpAny_bind (wpAny_loadPart I.at_ (wpAny_bind (looks_clsIn X hc _ _ _ _ (fun _ _ e => e) ?_))))))
  rw [hd]
  obtain ⟨V1, V2⟩ := news_upd (pre := []) (f := Obj.putName name (PyData.keyHash w.params name) (.str name (s.toks + 1)) v) F N (fun _ hp => nomatch hp) h2 ((putName_dict _ _ _ _ _ _).trans (by rw [e1, e2] : _ = dictOf es' n')) rfl
  have D2 := (V2 (dx, _) (.head _)).1
  refine wpAny_pure (a := some dx) (wpAny_bind (wpAny_pure (wpAny_bind ?_)))
  unfold nsSet
  refine wpAny_bind (wpAny_bind (wpAny_askSetting (wpAny_pure (wpAny_bind (wpAny_mkText (wpAny_bind (wpAny_loadPart D ?_)))))))
  dsimp only
  have c : (!es.toArray.any (·.key.isStr name) && es.toArray.any (·.refKey)) = false := by
    simp only [List.any_toArray]
    unfold getL at hl
    split at hl
    · rename_i en he
      rw [List.any_eq_true.mpr ⟨en, List.mem_of_find?_eq_some he, List.find?_some he⟩]; rfl
    · split at hl
      · cases hl
      · rename_i z; rw [Bool.not_eq_true] at z; rw [z, Bool.and_false]
  rw [aRefKeyMayBeTheName_at, c]
  refine wpAny_updatePart D ?_
  refine wpAny_bind (wpAny_lookBehind D2 (pastItsLine_dict (by simp only [List.size_toArray, sizeLine_eq]; omega)) ?_)
  exact wpAny_pure (h _ _ V1 V2)

theorem exc_init {rest : List Value} {t0 : Addr} {Q : Value → Shared → Prop} {pre post : List (Addr × Obj)} (F : Fr h₀ L s.heap m) (X₀ : K.In h₀) (N : News h₀ L s.heap (pre ++ (x, excO C t0 none) :: post))
    (hC : K.lookup C = some (excClassObj nm q C Nc bs bm hdct sn sub ab col dd k0 k1 k2 k3 k5 "Exception.__new__")) (eB : bm.contains (.type "Exception") = true)
    (h1 : ∀ p ∈ pre, p.1 ≠ x) (h2 : ∀ p ∈ post, p.1 ≠ x) (hrest : rest.length ≤ sizeLine)
    (h : ∀ t' h', Fr h₀ L h' m → News h₀ L h' ((t', tup rest 0) :: (pre ++ (x, excO C t' none) :: post)) → (∀ p ∈ pre ++ (x, excO C t0 none) :: post, p.1 < t') → Q .none { s with heap := h' }) :
    wpAny (model prog w) A (call (.builtin "Exception.__init__") (.ref x :: rest)) Q E s := by
  have Fn := PySem.F.excBase_Exception
  have X := X₀.keeps F.keep
  have hx := (N (x, excO C t0 none) (by simp)).1
  have e0 : ∀ p ∈ pre ++ (x, excO C t0 none) :: post, p.1 < s.heap.objs.size := fun p hp => Heap.lt_size (N p hp).1
  have nx : s.heap.objs.size ≠ x := Nat.ne_of_gt (e0 (x, excO C t0 none) (by simp))
  obtain ⟨U1, U2⟩ := news_upd (pre := (s.heap.objs.size, tup rest 0) :: pre) (f := Obj.mapFields (·.setIfInBounds 0 (.ref s.heap.objs.size))) (F.push (tup rest 0)) (N.push F (tup rest 0))
    (fun p hp => by rcases List.mem_cons.mp hp with rfl | hp; exact nx; exact h1 p hp) h2 (rfl : _ = excO C s.heap.objs.size none) rfl
  have z := h _ _ U1 U2 e0
  have hC' := X _ _ hC
  obtain ⟨hh, g, d, t, os⟩ := s
  dsimp only at hx hC' z
  refine wpAny_call (codeAny_call_builtin Fn.init.plain Fn.initEntry ?_)
  have hcB : (Value.ref C :: bm).contains (.type "Exception") = true := by rw [List.contains_cons, eB, Bool.or_true]
  have hshort := Fn.noStar
  simp only [checkBuiltinCall, Fn.initKind, Fn.initSplit, Fn.initRow]
  repeat (first | with_reducible refine wpAny_loadPart_at hx ?_ | with_reducible refine wpAny_loadPart_at hC' ?_ | (with_reducible refine wpAny_isSubtype_exc hC' ?_; rw [hcB]) | wp_step)
  refine wpAny_onRaise ?_
  rw [show ∀ (a b : String) (n : Nat), Bind.check ⟨.positional, "*", "Exception", .self, [⟨"args", .varPos, false⟩]⟩ a b n (List.map (fun x => x.fst) ({ pos := Value.ref x :: rest } : Args).kw) = pure () from
    fun a b n => check_star_args _ _ _ _ _ _]
  refine wpAny_pure ?_
  unfold Builtin.«BaseException.__init__»
  dsimp only
  rw [if_neg (by simp)]
  unfold newTuple Builtin.BaseException.bexcPut
  have hx1 := Heap.get?_push_of_some (h := hh) (tup rest 0) hx
  refine wpAny_bind (wpAny_newObj_type (wpAny_bind (wpAny_bind (wpAny_field hx1 rfl rfl (wpAny_bind (wpAny_setField hx1 rfl (by simp) ?_))))) (by show rest.toArray.size ≤ sizeLine; rw [List.size_toArray]; exact hrest))
  exact wpAny_letGo (wpAny_pure z)
end
section
open PySem.Spec PySem.Calls
variable {M : Model} {A : Around} {E : Value → Shared → Prop} {s' : Shared} {base g : Heap} {outer : List Env} {L a e : Addr} {m : Str → Option Value} {name : Str} {scope : Scope} {cd : Value} {Q : Unit → Shared → Prop} {news all : List (Addr × Obj)}
theorem leave_newC {ob : Obj} {vs : Array Value} {a0 cls : Value} (K : Below A base outer g) (F : Fr g L s'.heap m) (N : News g L s'.heap all) (he : (e, ob) ∈ all) (hcl : ob.cls = cls) (hd : ob.data = .fields vs) (h1 : vs[1]? = some .none) (h0 : vs[0]? = some a0)
    (hs : ∀ p ∈ news, p ∈ all ∧ p.1 ≠ e)
    (hQ : ∀ h', RaisedSN base g outer e cls news h' → RaisedN base outer e cls news h' → g.UpToSlots h' → Q () { s' with heap := h' }) (hk : scope.kind = .function := by rfl) :
    wpAny M (A.deeper (envOf name scope L a cd)) (leaving (envOf name scope L a cd) (.ref e)) Q E s' := by
  have K' := K.push (name := name) (a := a) (cd := cd) F hk
  have ge : g.get? e = none := (N _ he).2.2
  have hin : ∀ env ∈ (envOf name scope L a cd :: outer), ∀ b, env.frame = some b → b ∈ e :: (envOf name scope L a cd :: outer).filterMap (·.frame) := fun env he b hb => .tail _ (List.mem_filterMap.mpr ⟨env, he, hb⟩)
  have nin : ∀ b o, g.get? b = some o → b ∉ outer.filterMap (·.frame) → b ∉ e :: (envOf name scope L a cd :: outer).filterMap (·.frame) := fun b o q nm hm => by
    rcases List.mem_cons.mp hm with rfl | hm
    · rw [ge] at q; cases q
    · rcases kts_mem hm with z | z
      · rw [z, kts_self F] at q; cases q
      · exact nm z
  have st : base.StaysIn (hideAll s'.heap (e :: (envOf name scope L a cd :: outer).filterMap (·.frame))) := fun b o q => hideAll_get _ (F.keep b o (K.stays b o q)) (nin b o (K.stays b o q) fun hm => by
    rw [(K.frames.mem hm).1] at q; cases q)
  have sg : ∀ b o, g.get? b = some o → b ∉ outer.filterMap (·.frame) → (hideAll s'.heap (e :: (envOf name scope L a cd :: outer).filterMap (·.frame))).get? b = some o := fun b o q nm => hideAll_get _ (F.keep b o q) (nin b o q nm)
  have hl : ∀ q ∈ news, (hideAll s'.heap (e :: (envOf name scope L a cd :: outer).filterMap (·.frame))).get? q.1 = some q.2 ∧ g.get? q.1 = none ∧ base.get? q.1 = none := fun q hq => by
    obtain ⟨hq', hne⟩ := hs q hq
    refine ⟨hideAll_get _ (N q hq').1 fun hm => ?_, (N q hq').2.2, fresh_of_stays K.stays (N q hq').2.2⟩
    rcases List.mem_cons.mp hm with z | hm
    · exact hne z
    · obtain ⟨env, he, hf⟩ := List.mem_filterMap.mp hm
      rcases List.mem_cons.mp he with rfl | he
      · exact (N q hq').2.1 (Option.some.inj hf).symm
      · obtain ⟨o, ho, _⟩ := (K.frames.mem (List.mem_filterMap.mpr ⟨env, he, hf⟩)).2
        rw [(N q hq').2.2] at ho; cases ho
  have hen : (hideAll s'.heap (e :: (envOf name scope L a cd :: outer).filterMap (·.frame))).get? e = none := hideAll_none _ (.head _)
  refine wpAny_leaving_firstW (a0 := a0) K'.stack (funFrames_hide K'.frames hin) rfl (N _ he).1 (fun b o hb => of_hideAll _ hb) hen hd h1 h0 fun h' hL => ?_
  obtain ⟨k1, ⟨_, _, k2⟩, k3, k4⟩ := hL
  have R : RaisedSN base g outer e cls news h' := ⟨_, a0, st, sg, hl, k1, hen, k2, by rw [← hcl]; exact k3⟩
  exact hQ h' R R.toN ((Heap.UpToSlots.of_keeps F.keep).trans k4)
end
section
open PySem.Spec PySem.Calls
variable {prog : Program} {w : World} {A₀ A : Around} {s : Shared} {base h₀ : Heap} {L : Addr} {m : Str → Option Value} {env : Env} {news : List (Addr × Obj)} {K : Frag} {p : Program} {loose : List Str} {mean : ExcName → Option Value} {mg mb : Str → Option Value}
  {R : Result → Shared → Prop} {name qual : Str} {params : Arguments} {body : List Stmt} {scope : Scope} {dV kV doc pm cdv ct oc : Value} {an od : Option Addr} {osl : Array (Option Value)} {f : Addr} {args : Args} {binds : List (Str × Value)}
theorem code_defX0 (B : Below A₀ base [] h₀) (F : Fr h₀ L s.heap m) (X₀ : K.In h₀) (N : News h₀ L s.heap news) (T : Top p loose mean mg mb h₀) (hA : A.frames = some [env]) (hf : env.frame = some L) (hke : env.scope.kind = .function)
    (ho : K.lookup f = some ⟨oc, od, .func (fnOf name qual params body scope dV kV doc pm an cdv ct), osl⟩) (hcd : codeIn K cdv qual = true) (hroom : A.depth < recursionLimit)
    (hbind : BindsTo s (fnOf name qual params body scope dV kV doc pm an cdv ct) args binds) (hloc : ∀ y ∈ binds, scope.names.lookup y.1 = some .local)
    (h : ∀ g L' h₁, Fr h₀ L g m → Fr g L' h₁ (fun y => binds.reverse.lookup y) → News g L' h₁ news → Below A base [env] g → K.In g → Top p loose mean mg mb g → KtsDicts ([env].filterMap (·.frame)) g →
      wpAny (model prog w) (A.deeper (envOf qual scope L' f cdv)) (execs body (envOf qual scope L' f cdv))
        (fun fl s' => LeaveS0 ([env].filterMap (·.frame)) h₀ L m g R (match fl with | .ret v => v | _ => .none) s')
        (fun e s' => wpAny (model prog w) (A.deeper (envOf qual scope L' f cdv)) (leaving (envOf qual scope L' f cdv) e) (fun _ s'' => R (.error e) s'') (fun e' s'' => R (.error e') s'') s')
        { s with heap := h₁, toks := s.toks + binds.length })
    (hco : scope.isCoroutine = false) (hgen : scope.isGenerator = false) (hk : scope.kind = .function)
    (hcell : ∀ x ∈ scope.names, x.2 ≠ .cell) : codeAny (model prog w) A (.call (.ref f) args) R s := by
  have X := X₀.keeps F.keep
  have fe : [env].filterMap (·.frame) = [L] := by simp only [List.filterMap_cons, hf, List.filterMap_nil]
  refine codeAny_call_def (fd := fnOf name qual params body scope dV kV doc pm an cdv ct) (body := body) (binds := binds) hroom (X _ _ ho) rfl (T.nolimit.keeps F.keep) (codeRec_of X hcd) rfl hbind hcell hloc (fun h₁ hns hk₁ => ?_) hco hgen hk
  obtain ⟨FG, B₂, st, _⟩ := groundX (R := R) B F N hA hf hke
  obtain ⟨oL, es, ep, hLg, hLd, hLk, hLf⟩ := FG.ns
  refine wpAny_mono (h _ s.heap.objs.size h₁ FG ⟨hns, fun b o e => hk₁ b o (of_hideAll _ e), Nat.le_of_eq (hideAll_size _ _)⟩
    (fun p hp => ⟨hk₁ _ _ (N p hp).1, Nat.ne_of_lt (Heap.lt_size (N p hp).1), hideAll_none _ (List.mem_map_of_mem hp)⟩) B₂ (X₀.keeps st) (T.keeps st) (fun b hb => by
      rw [fe] at hb
      rw [List.mem_singleton.mp hb]
      exact ⟨oL, es, ep, hLg, hLd⟩)) (fun fl s' hl => ?_) fun _ _ y => y
  obtain ⟨g', L', m', news', T', F', N', k⟩ := hl
  have nL₀ : h₀.get? L = none := kts_self F
  obtain ⟨sl, hs⟩ := T'.up hLg
  refine k ⟨⟨_, es, ep, F'.keep _ _ hs, hLd, hLk, hLf⟩, fun b o e => F'.keep b o (T'.other b o (st b o e) (fun q => by
    rw [fe] at q
    rw [List.mem_singleton.mp q, nL₀] at e
    cases e)), F.above⟩ fun p hp => ⟨(N' p hp).1, fun q => ?_, ?_⟩
  · have := (N' p hp).2.2; rw [q, hs] at this; cases this
  · cases q : h₀.get? p.1 with
    | none => rfl
    | some o =>
      obtain ⟨sl', hs'⟩ := T'.up (st _ _ q)
      have := (N' p hp).2.2
      rw [hs'] at this
      cases this
end
def RaisableC (C : Addr) (E : Value → Shared → Prop) (v : Value) (s₁ : Shared) : Prop :=
  ∃ e t dx nm q Nc bs bm hdct sn sub ab col dd k0 k1 k2 k3 k5 nid, v = .ref e ∧ s₁.heap.get? C = some (excClassObj nm q C Nc bs bm hdct sn sub ab col dd k0 k1 k2 k3 k5 nid) ∧ bm.contains (.type "BaseException") = true ∧
    s₁.heap.get? e = some (excO C t (some dx)) ∧ E (.ref e) s₁
section
variable {M : Model} {A : Around} {E : Value → Shared → Prop} {env : Env} {s : Shared}
theorem exc_raise {C : Addr} {e : PySem.Expr} {pos : Pos} {Q : Flow → Shared → Prop} (hh : A.handled = none) (h : wpAny M A (eval e env) (RaisableC C E) E s) : wpAny M A (exec (.Raise (some e) none pos) env) Q E s := by
  show wpAny M A (do standAt pos; raiseStmt env (some (do let v ← eval e env; standAt pos; pure v)) none) Q E s
  refine wpAny_bind (wpAny_standAt ?_)
  unfold raiseStmt
  dsimp only
  refine wpAny_bind (wpAny_bind (wpAny_mono h (fun v s₁ h₁ => wpAny_bind (wpAny_standAt (wpAny_pure ?_))) fun _ _ x => x))
  obtain ⟨e, t, dx, nm, q, Nc, bs, bm, hdct, sn, sub, ab, col, dd, k0, k1, k2, k3, k5, nid, rfl, hC, hbase, he, hE⟩ := h₁
  have hcB : (Value.ref C :: bm).contains (.type "BaseException") = true := by rw [List.contains_cons, hbase, Bool.or_true]
  obtain ⟨hp, g, d, tk, os⟩ := s₁
  repeat (first | with_reducible refine wpAny_loadPart_at he ?_ | with_reducible refine wpAny_loadPart_at hC ?_ | (with_reducible refine wpAny_isSubtype_exc hC ?_; rw [hcB]) | wp_step)
  exact wpAny_raiseNew_none hh hE
theorem raisableC {K : Frag} {C e t dx L : Addr} {h₀ : Heap} {m : Str → Option Value} {all : List (Addr × Obj)} {nm q : Str} {Nc : Addr} {bs bm : List Value} {hdct : Bool} {sn : List Str} {sub : List Value} {ab : Bool} {col : Option Bool} {dd : Option Addr} {k0 k1 k2 k3 k5 : Option Value} {nid : String}
    (F : Fr h₀ L s.heap m) (X₀ : K.In h₀) (N : News h₀ L s.heap all) (he : (e, excO C t (some dx)) ∈ all) (hC : K.lookup C = some (excClassObj nm q C Nc bs bm hdct sn sub ab col dd k0 k1 k2 k3 k5 nid)) (hbase : bm.contains (.type "BaseException") = true)
    (hE : E (.ref e) s) : RaisableC C E (.ref e) s :=
  ⟨e, t, dx, nm, q, Nc, bs, bm, hdct, sn, sub, ab, col, dd, k0, k1, k2, k3, k5, nid, rfl, X₀.keeps F.keep _ _ hC, hbase, (N _ he).1, hE⟩
end

end

section
theorem lt_of_allLt {d : Addr} : ∀ {l : List (Addr × Obj)}, AllLt d l → ∀ p ∈ l, p.1 < d
  | [], _, _, hp => (nomatch hp)
  | q :: r, h, p, hp => by
    rcases List.mem_cons.mp hp with rfl | hp
    · exact h.1
    · exact lt_of_allLt h.2 p hp
theorem compEnd_same {h₀ : Heap} {L I C D : Addr} {m : Str → Option Value} {s₁ : Shared} {oI oC oD : Obj} {S : List (Addr × Obj) → Prop} {rest : Value → List (Addr × Obj) → Prop} {y : Value} {h' : Heap} {tk : Nat} {news' : List (Addr × Obj)}
    (F : Fr h₀ L h' m) (N : News h₀ L h' ((I, oI) :: (C, oC) :: (D, oD) :: news')) (off : LCg.Off3 I C D news') (hS : S news') (r : rest y news') :
    LCg.CompEnd h₀ L m s₁ I oI C oC D oD S rest y { s₁ with heap := h', toks := tk } := LCg.CompEnd.intro F N news' (fun _ hp => hp) off hS r
theorem size_S (w : World) (mean : ExcName → Option Value) (mg mb : Str → Option Value) (news : List (Addr × Obj)) (x : Int) (tx : Tok) (c : Int) (h0 : -1 ≤ x) (h1 : x < 1114112) (e : sizeOf' x = c) :
    Con w mean mg mb 62 [.int x tx] news 1 8 (fun G q => ∀ t h' tk', G h' news → q (.int c t) h' tk') := by
  subst e; exact size_of_code_con w mean mg mb news x tx h0 h1
theorem bad_S (w : World) (mean : ExcName → Option Value) (mg mb : Str → Option Value) (news : List (Addr × Obj)) (x : Int) (tx : Tok) (b : Bool) (e : decide (55296 ≤ x ∧ x ≤ 57343) = b) :
    Con w mean mg mb 55 [.int x tx] news 1 8 (fun G q => ∀ h' tk', G h' news → q (.bool b) h' tk') := by
  subst e; exact is_bad_con w mean mg mb news x tx
set_option maxRecDepth 100000 in
set_option maxHeartbeats 8000000 in
theorem size_raise {w : World} {mean : ExcName → Option Value} {mg mb : Str → Option Value} {news : List (Addr × Obj)} {tx : Tok} {dp un : Nat} {gd : Option (List Code)} {cn : Str} {cs : Scope} {a : Addr} {ccd : Value} {cl : List (Str × Addr)} {outer : List Env} {A₀ : Around} {base h₀ : Heap} {L : Addr} {m : Str → Option Value} {s : Shared} {Q E : Value → Shared → Prop}
    (B : Below A₀ base outer h₀) (F : Fr h₀ L s.heap m) (X : (Mine.hd.heap_39 w.params).In h₀) (N : News h₀ L s.heap news)
    (T : Top Mine.hd.view_39 (looseW Mine.hd.view_39 [PySem.Str.ofString "RowsError", PySem.Str.ofString "LIMITS"]) mean mg mb h₀) (hk : cs.kind = .function)
    (hd : dp + 4 < recursionLimit) (hu : un + 100 < cLine)
    (hE : ∀ e g h' tk', Fr h₀ L g m → RaisedSN base g (envX cn cs L a ccd cl :: outer) e (.ref 45) news h' → g.UpToSlots h' → E (.ref e) { s with heap := h', toks := tk' }) :
    wpAny (model (PySem.W.OpenLaw.row PySem.Challenge.rw_xm0683_01).prog w) (ktrTop dp un gd cn cs L a ccd cl outer) (call (.ref 62) [.int 1114112 tx]) Q E s := by
  w_top off
  k_with_none
  k_with "UnrEnd" => ((first
    | (refine unrEnd_mid (pre := []) (by k_asm) (by k_asm) (by k_all) (by k_all) ?_; k_whole)
    | (refine unrEnd_mid (pre := [_]) (by k_asm) (by k_asm) (by k_all) (by k_all) ?_; k_whole)
    | (refine unrEnd_mid (pre := [_, _]) (by k_asm) (by k_asm) (by k_all) (by k_all) ?_; k_whole)
    | (refine unrEnd_mid (pre := [_, _, _]) (by k_asm) (by k_asm) (by k_all) (by k_all) ?_; k_whole)
    | (refine unrEnd_mid (pre := [_, _, _, _]) (by k_asm) (by k_asm) (by k_all) (by k_all) ?_; k_whole)); (try dsimp only [List.cons_append, List.nil_append]))
  k_with "mine.and" => (first | assumption | exact And.left (by assumption) | exact And.left (And.right (by assumption)) | exact And.right (by assumption) | exact And.left (And.right (And.right (by assumption))) | exact And.right (And.right (by assumption)) | exact And.left (And.right (And.right (And.right (by assumption)))) | exact And.right (And.right (And.right (by assumption))) | exact And.left (And.right (And.right (And.right (And.right (by assumption))))) | exact And.right (And.right (And.right (And.right (by assumption)))) | exact And.left (And.right (And.right (And.right (And.right (And.right (by assumption)))))) | exact And.right (And.right (And.right (And.right (And.right (by assumption))))) | exact And.left (And.right (And.right (And.right (And.right (And.right (And.right (by assumption))))))) | exact And.right (And.right (And.right (And.right (And.right (And.right (by assumption)))))) | exact And.left (And.right (And.right (And.right (And.right (And.right (And.right (And.right (by assumption)))))))) | exact And.right (And.right (And.right (And.right (And.right (And.right (And.right (by assumption))))))) | exact And.left (And.right (And.right (And.right (And.right (And.right (And.right (And.right (And.right (by assumption))))))))) | exact And.right (And.right (And.right (And.right (And.right (And.right (And.right (And.right (by assumption)))))))) | exact And.left (And.right (And.right (And.right (And.right (And.right (And.right (And.right (And.right (And.right (by assumption)))))))))) | exact And.right (And.right (And.right (And.right (And.right (And.right (And.right (And.right (And.right (by assumption))))))))) | exact And.left (And.right (And.right (And.right (And.right (And.right (And.right (And.right (And.right (And.right (And.right (by assumption))))))))))) | exact And.right (And.right (And.right (And.right (And.right (And.right (And.right (And.right (And.right (And.right (by assumption)))))))))) | exact And.left (And.right (And.right (And.right (And.right (And.right (And.right (And.right (And.right (And.right (And.right (And.right (by assumption)))))))))))) | exact And.right (And.right (And.right (And.right (And.right (And.right (And.right (And.right (And.right (And.right (And.right (by assumption))))))))))) | exact And.left (And.right (And.right (And.right (And.right (And.right (And.right (And.right (And.right (And.right (And.right (And.right (And.right (by assumption))))))))))))) | exact And.right (And.right (And.right (And.right (And.right (And.right (And.right (And.right (And.right (And.right (And.right (And.right (by assumption)))))))))))) | exact And.left (And.right (And.right (And.right (And.right (And.right (And.right (And.right (And.right (And.right (And.right (And.right (And.right (And.right (by assumption)))))))))))))) | exact And.right (And.right (And.right (And.right (And.right (And.right (And.right (And.right (And.right (And.right (And.right (And.right (And.right (by assumption))))))))))))) | exact And.left (And.right (And.right (And.right (And.right (And.right (And.right (And.right (And.right (And.right (And.right (And.right (And.right (And.right (And.right (by assumption))))))))))))))) | exact And.right (And.right (And.right (And.right (And.right (And.right (And.right (And.right (And.right (And.right (And.right (And.right (And.right (And.right (by assumption)))))))))))))) | exact And.left (And.right (And.right (And.right (And.right (And.right (And.right (And.right (And.right (And.right (And.right (And.right (And.right (And.right (And.right (And.right (by assumption)))))))))))))))) | exact And.right (And.right (And.right (And.right (And.right (And.right (And.right (And.right (And.right (And.right (And.right (And.right (And.right (And.right (And.right (by assumption))))))))))))))) | exact And.left (And.right (And.right (And.right (And.right (And.right (And.right (And.right (And.right (And.right (And.right (And.right (And.right (And.right (And.right (And.right (And.right (by assumption))))))))))))))))) | exact And.right (And.right (And.right (And.right (And.right (And.right (And.right (And.right (And.right (And.right (And.right (And.right (And.right (And.right (And.right (And.right (by assumption)))))))))))))))) | exact And.left (And.right (And.right (And.right (And.right (And.right (And.right (And.right (And.right (And.right (And.right (And.right (And.right (And.right (And.right (And.right (And.right (And.right (by assumption)))))))))))))))))) | exact And.right (And.right (And.right (And.right (And.right (And.right (And.right (And.right (And.right (And.right (And.right (And.right (And.right (And.right (And.right (And.right (And.right (by assumption))))))))))))))))))
  k_with "exec For Tuple Call cons nil" => (k_here; (rename Fr _ _ _ _ => lF'); (with_unfolding_all refine' For_turns lF' ?_; k_whole))
  k_with "call type:enumerate" => (k_here; (with_reducible show wpAny _ _ (call (Value.type _) [Value.ref _]) (fun xv s₁ => wpAny _ _ (pyIter xv) (fun it s₂ => TurnsAt _ _ _ _ _ _ _ _ _ it s₂) _ s₁) _ _); (with_unfolding_all refine enum_ground (xs := [Itm.pair (fun t => Value.int 0 t) _, Itm.pair (fun t => Value.int 1 t) _, Itm.pair (fun t => Value.int 2 t) _, Itm.pair (fun t => Value.int 3 t) _]) (by with_unfolding_all rfl) (by k_asm) (by k_asm) (by k_asm) (by k_is) (by exact rfl) (by exact rfl) (by exact rfl) ?_; k_whole); intro i' l1; (try k_lt l1))
  k_with "UnrEndW" => ((refine unrEndW_two (by k_asm) (by k_asm) (by assumption) ⟨trivial, ?_⟩; k_whole))
  k_with "UnrEndW" => ((refine unrEndW_two (by k_asm) (by k_asm) (by k_dflt (exact lt_of_allLt (by assumption))) ⟨trivial, ?_⟩; k_whole))
  k_with "exec Raise some none" => (k_here; (with_reducible show wpAny _ _ (exec (Stmt.Raise (some _) none _) _) _ _ _); k_dflt (refine exc_raise (C := 45) (by exact rfl) ?_))
  k_with "call ref" => (
    k_here
    (with_reducible show wpAny _ _ (call (Value.ref 45) [Value.str _ _]) _ _ _)
    k_dflt (refine exc_call (by k_asm) (by k_asm) (by k_asm) (by k_is) (by decide) (by decide) (by decide) (by k_is) (by k_is) ?_ (by first | decide | size_fits))
    intro x' t' h' F' N' l1
    (try k_lt l1)
    (try k_sweep))
  k_with "call ref" => (
    k_here
    (with_reducible show wpAny _ _ (call (Value.ref _) [Value.ref _, Value.str _ _]) _ _ _)
    (refine wpAny_call ?_)
    k_dflt (refine code_def (by k_asm) (by k_asm) (by k_asm) (by k_asm) (by k_asm) (by exact rfl) (by exact rfl) (by exact rfl) (by k_is) (by k_is) (by ktr_room) (by first | exact BindsTo.of_eq rfl | exact binds_K (by k_in) rfl (by k_is) rfl rfl rfl) (by exact locs rfl) ?_ (by exact rfl) (by exact rfl) (by exact rfl) (by decide); k_whole; intro g' L' h' FG' F' N' B' X' T'; (try dsimp only); (try k_lift B'); (try k_fold)))
  k_with "getMethod type:Exception" => (k_here; refine method_type (by k_asm) (by k_asm) (by kernel_rfl) (by decide +kernel) (by k_dflt k_is) (by k_handed) ?_)
  k_with "call builtin:Exception.__init__" => (
    k_here
    k_dflt (refine exc_init (pre := []) (by k_asm) (by k_asm) (by k_asm) (by k_is) (by decide) (by k_all) (by k_all) (by first | decide | size_fits) ?_)
    intro t' h' F' N' l1
    (try dsimp only [List.cons_append, List.nil_append] at N' l1)
    (try k_lt l1)
    (try k_sweep))
  k_with "setAttr ref" => (
    k_here
    k_dflt (first
     | (refine exc_set1 (pre := [_]) (by k_asm) (by k_asm) (by k_asm) (by k_is) (by rfl) (by k_is) (by intro _; kernel_rfl) (by k_all) (by k_all) (by k_is) (by k_is) ?_; k_whole; intro x' h' tk' F' N' l1; (try dsimp only [List.cons_append, List.nil_append] at N' l1); (try k_lt l1); (try k_sweep))
     | (refine exc_set2 (by k_asm) (by k_asm) (by k_asm) (by k_mem) (by k_is) (by rfl) (by k_is) (by intro _; kernel_rfl) (by k_all) (by k_is) (by k_is) (by rfl) (by k_put) (by exact Nat.le_of_ble_eq_true rfl) ?_; k_whole; intro h' tk' F' N'; (try k_sweep))))
  k_with "RaisableC" => (k_here; k_dflt (refine raisableC (by k_asm) (by k_asm) (by k_asm) (by k_mem) (by k_is) (by decide) ?_))
  revert X
  k_fill
  intro X
  refine wpAny_call ?_
  k_dflt cell_enter
  k_steps
  refine' leave_newC (news := news) ?kK ?kF ?kN ?he ?hcl ?hd ?h1 ?h0 ?hs ?_
  case kK => k_asm
  case kF => k_asm
  case kN => k_asm
  case he => k_dflt k_mem
  case hcl => exact rfl
  case hd => exact rfl
  case h1 => exact rfl
  case h0 => exact rfl
  case hs => exact fun p hp => ⟨by repeat (first | exact hp | apply List.mem_cons_of_mem), allLt_ne (And.right (by assumption)) p hp⟩
  intro h' R1 R2 U
  exact hE _ _ _ _ (by k_asm) R1 U

end

section
theorem ne_int_sameC {prog : Program} {w : World} {A : Around} {E : Value → Shared → Prop} {s : Shared} {c : Int} {t u : Tok} {Q : Value → Shared → Prop} (h : Q (.bool false) s) :
    wpAny (model prog w) A (compareOp .NotEq (.int c t) (.int c u)) Q E s := by
  refine ne_int ?_
  rw [show (c != c) = false by simp]
  exact h
def codF : Stmt := (PySem.Challenge.pw_xm0683_01.main.body.drop 21).headD (.Pass ⟨0, 0, 0, 0⟩)
def codS : Scope := scopeX codF
def codFor : Stmt := (bodyX codF).headD (.Pass ⟨0, 0, 0, 0⟩)
def codBody : List Stmt := bodyX codFor
set_option maxRecDepth 100000 in
set_option maxHeartbeats 8000000 in
theorem code_turn {w : World} {mean : ExcName → Option Value} {mg mb : Str → Option Value} {dp un : Nat} {gd : Option (List Code)} {cn : Str} {a : Addr} {ccd : Value} {outer : List Env} {A₀ : Around} {base h₀ : Heap} {L : Addr} {m : Str → Option Value} {s : Shared} {Qf : Flow → Shared → Prop} {E : Value → Shared → Prop}
    {I T' : Addr} {o : Obj} {news : List (Addr × Obj)} {x z : Int} {tx tz : Tok} {n : Nat}
    (B : Below A₀ base outer h₀) (F : Fr h₀ L s.heap m) (X : (Mine.hd.heap_39 w.params).In h₀) (N : News h₀ L s.heap ((I, o) :: news))
    (T : Top Mine.hd.view_39 (looseW Mine.hd.view_39 [PySem.Str.ofString "RowsError", PySem.Str.ofString "LIMITS"]) mean mg mb h₀)
    (hd : dp + 2 < recursionLimit) (hu : un + 90 < cLine) (x0 : -1 ≤ x) (x1 : x < 1114112) (hz : sizeOf' x = z) (hb : decide (55296 ≤ x ∧ x ≤ 57343) = false) (hm : (T', tup [.int x tx, .int z tz] n) ∈ news)
    (ret : ∀ m' h' tk', Fr h₀ L h' m' → News h₀ L h' ((I, o) :: news) → Qf .next { s with heap := h', toks := tk' }) :
    wpAny (model (PySem.W.OpenLaw.row PySem.Challenge.rw_xm0683_01).prog w) (ktrTop dp un gd cn codS L a ccd [] outer) (assign (targetX codFor) (envX cn codS L a ccd []) (.ref T'))
      (fun _ s₂ => wpAny (model (PySem.W.OpenLaw.row PySem.Challenge.rw_xm0683_01).prog w) (ktrTop dp un gd cn codS L a ccd [] outer) (execs codBody (envX cn codS L a ccd [])) Qf E s₂) E s := by
  w_top off
  k_with_none
  k_with "UnrEnd" => ((first
    | (refine unrEnd_mid (pre := []) (by k_asm) (by k_asm) (by k_all) (by k_all) ?_; k_whole)
    | (refine unrEnd_mid (pre := [_]) (by k_asm) (by k_asm) (by k_all) (by k_all) ?_; k_whole)
    | (refine unrEnd_mid (pre := [_, _]) (by k_asm) (by k_asm) (by k_all) (by k_all) ?_; k_whole)
    | (refine unrEnd_mid (pre := [_, _, _]) (by k_asm) (by k_asm) (by k_all) (by k_all) ?_; k_whole)
    | (refine unrEnd_mid (pre := [_, _, _, _]) (by k_asm) (by k_asm) (by k_all) (by k_all) ?_; k_whole)); (try dsimp only [List.cons_append, List.nil_append]))
  k_with "mine.and" => (first | assumption | exact And.left (by assumption) | exact And.left (And.right (by assumption)) | exact And.right (by assumption) | exact And.left (And.right (And.right (by assumption))) | exact And.right (And.right (by assumption)) | exact And.left (And.right (And.right (And.right (by assumption)))) | exact And.right (And.right (And.right (by assumption))) | exact And.left (And.right (And.right (And.right (And.right (by assumption))))) | exact And.right (And.right (And.right (And.right (by assumption)))) | exact And.left (And.right (And.right (And.right (And.right (And.right (by assumption)))))) | exact And.right (And.right (And.right (And.right (And.right (by assumption))))) | exact And.left (And.right (And.right (And.right (And.right (And.right (And.right (by assumption))))))) | exact And.right (And.right (And.right (And.right (And.right (And.right (by assumption)))))) | exact And.left (And.right (And.right (And.right (And.right (And.right (And.right (And.right (by assumption)))))))) | exact And.right (And.right (And.right (And.right (And.right (And.right (And.right (by assumption))))))) | exact And.left (And.right (And.right (And.right (And.right (And.right (And.right (And.right (And.right (by assumption))))))))) | exact And.right (And.right (And.right (And.right (And.right (And.right (And.right (And.right (by assumption)))))))) | exact And.left (And.right (And.right (And.right (And.right (And.right (And.right (And.right (And.right (And.right (by assumption)))))))))) | exact And.right (And.right (And.right (And.right (And.right (And.right (And.right (And.right (And.right (by assumption))))))))) | exact And.left (And.right (And.right (And.right (And.right (And.right (And.right (And.right (And.right (And.right (And.right (by assumption))))))))))) | exact And.right (And.right (And.right (And.right (And.right (And.right (And.right (And.right (And.right (And.right (by assumption)))))))))) | exact And.left (And.right (And.right (And.right (And.right (And.right (And.right (And.right (And.right (And.right (And.right (And.right (by assumption)))))))))))) | exact And.right (And.right (And.right (And.right (And.right (And.right (And.right (And.right (And.right (And.right (And.right (by assumption))))))))))) | exact And.left (And.right (And.right (And.right (And.right (And.right (And.right (And.right (And.right (And.right (And.right (And.right (And.right (by assumption))))))))))))) | exact And.right (And.right (And.right (And.right (And.right (And.right (And.right (And.right (And.right (And.right (And.right (And.right (by assumption)))))))))))) | exact And.left (And.right (And.right (And.right (And.right (And.right (And.right (And.right (And.right (And.right (And.right (And.right (And.right (And.right (by assumption)))))))))))))) | exact And.right (And.right (And.right (And.right (And.right (And.right (And.right (And.right (And.right (And.right (And.right (And.right (And.right (by assumption))))))))))))) | exact And.left (And.right (And.right (And.right (And.right (And.right (And.right (And.right (And.right (And.right (And.right (And.right (And.right (And.right (And.right (by assumption))))))))))))))) | exact And.right (And.right (And.right (And.right (And.right (And.right (And.right (And.right (And.right (And.right (And.right (And.right (And.right (And.right (by assumption)))))))))))))) | exact And.left (And.right (And.right (And.right (And.right (And.right (And.right (And.right (And.right (And.right (And.right (And.right (And.right (And.right (And.right (And.right (by assumption)))))))))))))))) | exact And.right (And.right (And.right (And.right (And.right (And.right (And.right (And.right (And.right (And.right (And.right (And.right (And.right (And.right (And.right (by assumption))))))))))))))) | exact And.left (And.right (And.right (And.right (And.right (And.right (And.right (And.right (And.right (And.right (And.right (And.right (And.right (And.right (And.right (And.right (And.right (by assumption))))))))))))))))) | exact And.right (And.right (And.right (And.right (And.right (And.right (And.right (And.right (And.right (And.right (And.right (And.right (And.right (And.right (And.right (And.right (by assumption)))))))))))))))) | exact And.left (And.right (And.right (And.right (And.right (And.right (And.right (And.right (And.right (And.right (And.right (And.right (And.right (And.right (And.right (And.right (And.right (And.right (by assumption)))))))))))))))))) | exact And.right (And.right (And.right (And.right (And.right (And.right (And.right (And.right (And.right (And.right (And.right (And.right (And.right (And.right (And.right (And.right (And.right (by assumption))))))))))))))))))
  k_with "call ref" => (
    k_here
    (with_reducible show wpAny _ _ (call (Value.ref 62) [Value.int _ _]) _ _ _)
    k_dflt (refine con_app (by k_asm) (by k_asm) (by k_asm) (by k_asm) (by k_asm) (by exact rfl) (by ktr_room) (by ktr_units) (size_S _ _ _ _ _ _ _ _ (by assumption) (by assumption) (by assumption)) ?_)
    (try dsimp only)
    intros
    (with_reducible rename Fr _ _ _ _ ∧ News _ _ _ _ => hFN')
    (obtain ⟨F', N'⟩ := hFN')
    (try k_fold)
    (try k_sweep))
  k_with "call ref" => (
    k_here
    (with_reducible show wpAny _ _ (call (Value.ref 55) [Value.int _ _]) _ _ _)
    k_dflt (refine con_app (by k_asm) (by k_asm) (by k_asm) (by k_asm) (by k_asm) (by exact rfl) (by ktr_room) (by ktr_units) (bad_S _ _ _ _ _ _ _ _ (by assumption)) ?_)
    (try dsimp only)
    intros
    (with_reducible rename Fr _ _ _ _ ∧ News _ _ _ _ => hFN')
    (obtain ⟨F', N'⟩ := hFN')
    (try k_fold)
    (try k_sweep))
  k_with "compareOp NotEq int int" => (k_here; with_reducible refine ne_int_sameC ?_)
  k_with "assign Tuple" => (k_here; (with_reducible show wpAny _ _ (assign (PySem.Expr.Tuple _ _ _) _ (Value.ref _)) _ _ _); k_dflt (refine unpackN_ (by k_asm) (by k_asm) (News.isTup (by k_asm) (List.Mem.tail _ (by assumption))) (by exact rfl) (by exact rfl) (by exact rfl) ?_; k_whole); intro h' F' N'; (try k_sweep))
  revert ret hu hd T N X F B
  dsimp only [codF, codS, codFor, codBody, bodyX, scopeX, targetX, PySem.Challenge.pw_xm0683_01, List.drop, List.headD]
  k_fill
  intro B F X N T hd hu ret
  k_steps
  all_goals exact ret _ _ _ (by k_asm) (by k_asm)
def CodG (news : List (Addr × Obj)) (v : Value) : Prop := ∃ T x tx z tz n, v = .ref T ∧ -1 ≤ x ∧ x < 1114112 ∧ sizeOf' x = z ∧ decide (55296 ≤ x ∧ x ≤ 57343) = false ∧ (T, tup [.int x tx, .int z tz] n) ∈ news
theorem codG {news : List (Addr × Obj)} {T : Addr} {x z : Int} {tx tz : Tok} {n : Nat} (h : (T, tup [.int x tx, .int z tz] n) ∈ news) (e : (sizeOf' x, decide (-1 ≤ x), decide (x < 1114112), decide (55296 ≤ x ∧ x ≤ 57343)) = (z, true, true, false)) : CodG news (.ref T) :=
  ⟨T, x, tx, z, tz, n, rfl, of_decide_eq_true (congrArg (·.2.1) e), of_decide_eq_true (congrArg (·.2.2.1) e), congrArg (·.1) e, congrArg (·.2.2.2) e, h⟩
theorem codes_items {w : World} {mean : ExcName → Option Value} {mg mb : Str → Option Value} {dp un : Nat} {gd : Option (List Code)} {cn : Str} {a : Addr} {ccd : Value} {outer : List Env} {A₀ : Around} {base h₀ : Heap} {L : Addr} {m : Str → Option Value} {s : Shared} {Q : Flow → Shared → Prop} {E : Value → Shared → Prop}
    {I : Addr} {news keep : List (Addr × Obj)} {vs : List Value} {env : Env} {A : Around} {tgt : PySem.Expr} {body : List Stmt}
    (htg : tgt = targetX codFor) (hbd : body = codBody) (henv : env = envX cn codS L a ccd []) (hA : A = ktrTop dp un gd cn codS L a ccd [] outer) (hI : ∀ p ∈ news, p.1 < I) (hk : SubL keep news) (B : Below A₀ base outer h₀) (X : (Mine.hd.heap_39 w.params).In h₀)
    (T : Top Mine.hd.view_39 (looseW Mine.hd.view_39 [PySem.Str.ofString "RowsError", PySem.Str.ofString "LIMITS"]) mean mg mb h₀)
    (hd : dp + 2 < recursionLimit) (hu : un + 90 < cLine) (hv : ∀ v ∈ vs, CodG news v)
    (done : ∀ m h tk, Fr h₀ L h m → News h₀ L h news → Q .next { s with heap := h, toks := tk }) :
    ItemsRest (PySem.W.OpenLaw.row PySem.Challenge.rw_xm0683_01).prog w A E h₀ env tgt body Q s [(I, "list_iterator")] keep (vs.map .val) m news := by
  subst htg hbd henv hA
  refine items_all (env := envX cn codS L a ccd []) (CodG news) hI hk ?_ done vs m hv
  rintro v m h tk o Qf ⟨T', x, tx, z, tz, n, rfl, x0, x1, hz, hb, hm⟩ F N ret
  with_reducible exact code_turn (s := { s with heap := h, toks := tk }) B F X N T hd hu x0 x1 hz hb hm ret
set_option maxRecDepth 100000 in
set_option maxHeartbeats 8000000 in
theorem codes_con (w : World) (mean : ExcName → Option Value) (mg mb : Str → Option Value) (news : List (Addr × Obj)) (dp un : Nat) (gd : Option (List Code)) (cn : Str) (cs : Scope) (a : Addr) (ccd : Value) (cl : List (Str × Addr)) (A₀ : Around) (base h₀ : Heap) (L : Addr) (m : Str → Option Value) (s : Shared) (Q E : Value → Shared → Prop)
    (B : Below A₀ base [] h₀) (F : Fr h₀ L s.heap m) (X : (Mine.hd.heap_39 w.params).In h₀) (N : News h₀ L s.heap news)
    (T : Top Mine.hd.view_39 (looseW Mine.hd.view_39 [PySem.Str.ofString "RowsError", PySem.Str.ofString "LIMITS"]) mean mg mb h₀) (hk : cs.kind = .function)
    (hd : dp + 8 < recursionLimit) (hu : un + 300 < cLine) (hret : ∀ h' tk', Fr h₀ L h' m → News h₀ L h' news → Q (.bool true) { s with heap := h', toks := tk' }) :
    wpAny (model (PySem.W.OpenLaw.row PySem.Challenge.rw_xm0683_01).prog w) (ktrTop dp un gd cn cs L a ccd cl []) (call (.ref 137) []) Q E s := by
  w_top off
  k_with_none
  k_with "UnrEnd" => ((first
    | (refine unrEnd_mid (pre := []) (by k_asm) (by k_asm) (by k_all) (by k_all) ?_; k_whole)
    | (refine unrEnd_mid (pre := [_]) (by k_asm) (by k_asm) (by k_all) (by k_all) ?_; k_whole)
    | (refine unrEnd_mid (pre := [_, _]) (by k_asm) (by k_asm) (by k_all) (by k_all) ?_; k_whole)
    | (refine unrEnd_mid (pre := [_, _, _]) (by k_asm) (by k_asm) (by k_all) (by k_all) ?_; k_whole)
    | (refine unrEnd_mid (pre := [_, _, _, _]) (by k_asm) (by k_asm) (by k_all) (by k_all) ?_; k_whole)); (try dsimp only [List.cons_append, List.nil_append]))
  k_with "mine.and" => (first | assumption | exact And.left (by assumption) | exact And.left (And.right (by assumption)) | exact And.right (by assumption) | exact And.left (And.right (And.right (by assumption))) | exact And.right (And.right (by assumption)) | exact And.left (And.right (And.right (And.right (by assumption)))) | exact And.right (And.right (And.right (by assumption))) | exact And.left (And.right (And.right (And.right (And.right (by assumption))))) | exact And.right (And.right (And.right (And.right (by assumption)))) | exact And.left (And.right (And.right (And.right (And.right (And.right (by assumption)))))) | exact And.right (And.right (And.right (And.right (And.right (by assumption))))) | exact And.left (And.right (And.right (And.right (And.right (And.right (And.right (by assumption))))))) | exact And.right (And.right (And.right (And.right (And.right (And.right (by assumption)))))) | exact And.left (And.right (And.right (And.right (And.right (And.right (And.right (And.right (by assumption)))))))) | exact And.right (And.right (And.right (And.right (And.right (And.right (And.right (by assumption))))))) | exact And.left (And.right (And.right (And.right (And.right (And.right (And.right (And.right (And.right (by assumption))))))))) | exact And.right (And.right (And.right (And.right (And.right (And.right (And.right (And.right (by assumption)))))))) | exact And.left (And.right (And.right (And.right (And.right (And.right (And.right (And.right (And.right (And.right (by assumption)))))))))) | exact And.right (And.right (And.right (And.right (And.right (And.right (And.right (And.right (And.right (by assumption))))))))) | exact And.left (And.right (And.right (And.right (And.right (And.right (And.right (And.right (And.right (And.right (And.right (by assumption))))))))))) | exact And.right (And.right (And.right (And.right (And.right (And.right (And.right (And.right (And.right (And.right (by assumption)))))))))) | exact And.left (And.right (And.right (And.right (And.right (And.right (And.right (And.right (And.right (And.right (And.right (And.right (by assumption)))))))))))) | exact And.right (And.right (And.right (And.right (And.right (And.right (And.right (And.right (And.right (And.right (And.right (by assumption))))))))))) | exact And.left (And.right (And.right (And.right (And.right (And.right (And.right (And.right (And.right (And.right (And.right (And.right (And.right (by assumption))))))))))))) | exact And.right (And.right (And.right (And.right (And.right (And.right (And.right (And.right (And.right (And.right (And.right (And.right (by assumption)))))))))))) | exact And.left (And.right (And.right (And.right (And.right (And.right (And.right (And.right (And.right (And.right (And.right (And.right (And.right (And.right (by assumption)))))))))))))) | exact And.right (And.right (And.right (And.right (And.right (And.right (And.right (And.right (And.right (And.right (And.right (And.right (And.right (by assumption))))))))))))) | exact And.left (And.right (And.right (And.right (And.right (And.right (And.right (And.right (And.right (And.right (And.right (And.right (And.right (And.right (And.right (by assumption))))))))))))))) | exact And.right (And.right (And.right (And.right (And.right (And.right (And.right (And.right (And.right (And.right (And.right (And.right (And.right (And.right (by assumption)))))))))))))) | exact And.left (And.right (And.right (And.right (And.right (And.right (And.right (And.right (And.right (And.right (And.right (And.right (And.right (And.right (And.right (And.right (by assumption)))))))))))))))) | exact And.right (And.right (And.right (And.right (And.right (And.right (And.right (And.right (And.right (And.right (And.right (And.right (And.right (And.right (And.right (by assumption))))))))))))))) | exact And.left (And.right (And.right (And.right (And.right (And.right (And.right (And.right (And.right (And.right (And.right (And.right (And.right (And.right (And.right (And.right (And.right (by assumption))))))))))))))))) | exact And.right (And.right (And.right (And.right (And.right (And.right (And.right (And.right (And.right (And.right (And.right (And.right (And.right (And.right (And.right (And.right (by assumption)))))))))))))))) | exact And.left (And.right (And.right (And.right (And.right (And.right (And.right (And.right (And.right (And.right (And.right (And.right (And.right (And.right (And.right (And.right (And.right (And.right (by assumption)))))))))))))))))) | exact And.right (And.right (And.right (And.right (And.right (And.right (And.right (And.right (And.right (And.right (And.right (And.right (And.right (And.right (And.right (And.right (And.right (by assumption))))))))))))))))))
  k_with "call ref" => (
    k_here
    (with_reducible show wpAny _ _ (call (Value.ref 62) [Value.int _ _]) _ _ _)
    k_dflt (refine con_app (by k_asm) (by k_asm) (by k_asm) (by k_asm) (by k_asm) (by first | exact rfl | assumption) (by ktr_room) (by ktr_units) (size_S _ _ _ _ _ _ _ _ (by decide) (by decide) (by exact rfl)) ?_)
    (try dsimp only)
    intros
    (with_reducible rename Fr _ _ _ _ ∧ News _ _ _ _ => hFN')
    (obtain ⟨F', N'⟩ := hFN')
    (try k_fold)
    (try k_sweep))
  k_with "call ref" => (
    k_here
    (with_reducible show wpAny _ _ (call (Value.ref 55) [Value.int _ _]) _ _ _)
    k_dflt (refine con_app (by k_asm) (by k_asm) (by k_asm) (by k_asm) (by k_asm) (by first | exact rfl | assumption) (by ktr_room) (by ktr_units) (bad_S _ _ _ _ _ _ _ _ (by exact rfl)) ?_)
    (try dsimp only)
    intros
    (with_reducible rename Fr _ _ _ _ ∧ News _ _ _ _ => hFN')
    (obtain ⟨F', N'⟩ := hFN')
    (try k_fold)
    (try k_sweep))
  k_with "exec For Tuple BinOp cons nil" => (k_here; (rename Fr _ _ _ _ => lF'); (with_unfolding_all refine' For_turns lF' ?_; k_whole))
  k_with "pyIter ref" => (
    k_here
    (with_reducible show wpAny _ _ (pyIter (Value.ref _)) (fun it s₂ => TurnsAt _ _ _ _ _ _ _ _ _ it s₂) _ _)
    (with_unfolding_all refine list_turns (by rfl) (by k_asm) (by k_asm) (by k_mem) (by exact rfl) ?_)
    intro i' l1
    (with_reducible refine codes_items (by k_dflt (exact rfl)) (by k_dflt (exact rfl)) (by k_dflt (exact rfl)) (by k_dflt (exact rfl)) l1 (by k_dflt k_subL) (by k_asm) (by k_asm) (by k_asm) (by ktr_room) (by ktr_units) (by k_dflt (exact List.forall_mem_cons.mpr ⟨by exact codG (by k_mem) (by exact rfl), List.forall_mem_cons.mpr ⟨by exact codG (by k_mem) (by exact rfl), List.forall_mem_cons.mpr ⟨by exact codG (by k_mem) (by exact rfl), List.forall_mem_cons.mpr ⟨by exact codG (by k_mem) (by exact rfl), List.forall_mem_cons.mpr ⟨by exact codG (by k_mem) (by exact rfl), List.forall_mem_cons.mpr ⟨by exact codG (by k_mem) (by exact rfl), List.forall_mem_cons.mpr ⟨by exact codG (by k_mem) (by exact rfl), List.forall_mem_cons.mpr ⟨by exact codG (by k_mem) (by exact rfl), List.forall_mem_cons.mpr ⟨by exact codG (by k_mem) (by exact rfl), List.forall_mem_nil _⟩⟩⟩⟩⟩⟩⟩⟩⟩)) ?_)
    intro m' h' tk' F' N'
    (try k_sweep))
  k_with "exec For Tuple List cons nil" => (k_here; (rename Fr _ _ _ _ => lF'); (with_unfolding_all refine For_turns lF' ?_; k_whole))
  k_with "CompEnd" => (k_here; k_dflt (refine compEnd_same (by assumption) (by assumption) (by assumption) (by lcg_src) ?_))
  k_with "compareOp NotEq ref ref" => (k_here; (with_reducible show wpAny _ _ (compareOp CmpOp.NotEq (Value.ref _) (Value.ref _)) _ _ _); k_dflt ((refine ne_dataH (by with_unfolding_all exact reads_list_at (News.get (by k_asm) (by k_mem)) rfl rfl (by ked_reads)) (by with_unfolding_all exact reads_list_at (News.get (by k_asm) (by k_mem)) rfl rfl (by ked_reads)) (by ked_shaped) (by ked_shaped) (by ktr_units) ?_); (try ked_norm)))
  k_with "call ref" => (
    k_here
    (with_reducible show wpAny _ _ (call (Value.ref 62) [Value.int 1114112 _]) _ _ _)
    k_dflt (refine size_raise (by k_asm) (by k_asm) (by k_asm) (by k_asm) (by k_asm) (by exact rfl) (by ktr_room) (by ktr_units) ?_)
    intro e' g' h' tk' F' R' U')
  have B0 : Below A₀ h₀ [] h₀ := ⟨B.stack, fun _ _ e => e, trivial⟩
  clear B
  revert X
  k_fill
  intro X
  refine wpAny_call ?_
  k_dflt (refine' code_defX0 ?k1 ?k2 ?k3 ?k4 ?k5 ?kA ?kF ?kK ?k6 ?k7 ?k8 ?k9 ?kB ?_ ?c2 ?c3 ?c4 ?c5; (case kA => exact rfl); (case kF => exact rfl); (case kK => assumption); (case k1 => k_asm); (case k2 => k_asm); (case k3 => k_asm); (case k4 => k_asm); (case k5 => k_asm); (case k6 => k_is); (case k7 => k_is); (case k8 => ktr_room); (case k9 => exact BindsTo.of_eq rfl); (case c5 => decide); (case kB => exact locs rfl); (case c2 => exact rfl); (case c3 => exact rfl); (case c4 => exact rfl); k_whole; intro g' L' h' FG' F' N' B' X' T' D'; (try dsimp only); (try k_lift B'); (try k_fold))
  k_steps
  all_goals exact hret _ _ (by k_asm) (by exact cb_drop (by k_asm) (by intro p hp; repeat (first | exact hp | apply List.mem_cons_of_mem)))

end

section
theorem getD_app (pre ns : List Int) (i : Nat) : (pre ++ ns).getD (pre.length + i) 0 = ns.getD i 0 := by
  simp only [List.getD_eq_getElem?_getD, List.getElem?_append_right (Nat.le_add_right _ _), Nat.add_sub_cancel_left]
theorem getD_oct {ns : List Int} (hb : ∀ v ∈ ns, 0 ≤ v ∧ v < 256) (i : Nat) : 0 ≤ ns.getD i 0 ∧ ns.getD i 0 < 256 := by
  rw [List.getD_eq_getElem?_getD]
  cases h : ns[i]? with
  | none => exact ⟨by decide, by decide⟩
  | some v => exact hb v (List.mem_of_getElem? h)
def wholeC (n a b c d : Int) : Option Int :=
  match leadOf a with
  | none => none
  | some (k, x) =>
    if n ≤ k then none
    else if k = 0 then fin' 0 x
    else if k = 1 then (if foll b then fin' 1 (x * 64 + b - 128) else none)
    else if k = 2 then (if foll b && foll c then fin' 2 ((x * 64 + b - 128) * 64 + c - 128) else none)
    else (if foll b && foll c && foll d then fin' 3 (((x * 64 + b - 128) * 64 + c - 128) * 64 + d - 128) else none)
def lawC (n a b c d : Int) : Option Int :=
  match secondsOf a with
  | none => none
  | some (k, lo, hi) =>
    if n ≤ k then none
    else if k = 0 then some a
    else if k = 1 then (if inR lo b hi then some (64 * (a - 192) + b - 128) else none)
    else if k = 2 then (if inR lo b hi && inR 128 c 191 then some (64 * (64 * (a - 224) + b - 128) + c - 128) else none)
    else (if inR lo b hi && inR 128 c 191 && inR 128 d 191 then some (64 * (64 * (64 * (a - 240) + b - 128) + c - 128) + d - 128) else none)
theorem wholeAt_C (pre ns : List Int) : wholeAt (pre ++ ns) pre.length = wholeC (ns.length : Int) (ns.getD 0 0) (ns.getD 1 0) (ns.getD 2 0) (ns.getD 3 0) := by
  unfold wholeAt wholeC
  have e0 := getD_app pre ns 0
  rw [Nat.add_zero] at e0
  rw [e0, getD_app, getD_app, getD_app]
  have el : ∀ k : Int, (((pre ++ ns).length : Int) ≤ (pre.length : Int) + k) = ((ns.length : Int) ≤ k) := fun k => by
    rw [List.length_append, eq_iff_iff]; omega
  simp only [el]
  all_goals rfl
theorem lawCode_C (ns : List Int) : lawCode ns = lawC (ns.length : Int) (ns.getD 0 0) (ns.getD 1 0) (ns.getD 2 0) (ns.getD 3 0) := by unfold lawCode lawC; rfl
theorem foll_inR (b : Int) : foll b = inR 128 b 191 := by unfold foll inR; rw [decide_eq_decide]; omega
theorem sz1 {c : Int} (h : c < 128) : sizeOf' c = 1 := if_pos h
theorem sz2 {c : Int} (h : 128 ≤ c) (h2 : c < 2048) : sizeOf' c = 2 := by unfold sizeOf'; rw [if_neg (by omega), if_pos h2]
theorem sz3 {c : Int} (h : 2048 ≤ c) (h2 : c < 65536) : sizeOf' c = 3 := by unfold sizeOf'; rw [if_neg (by omega), if_neg (by omega), if_pos h2]
theorem sz4 {c : Int} (h : 65536 ≤ c) : sizeOf' c = 4 := by unfold sizeOf'; rw [if_neg (by omega), if_neg (by omega), if_neg (by omega)]
theorem sz_l2 {c : Int} (h : c < 2048) : sizeOf' c ≠ 2 + 1 := by
  by_cases h1 : c < 128
  · rw [sz1 h1]; decide
  · rw [sz2 (by omega) h]; decide
theorem sz_l3 {c : Int} (h : c < 65536) : sizeOf' c ≠ 3 + 1 := by
  by_cases h1 : c < 128
  · rw [sz1 h1]; decide
  · by_cases h2 : c < 2048
    · rw [sz2 (by omega) h2]; decide
    · rw [sz3 (by omega) h]; decide
theorem fin_no {k c : Int} (h : 1114111 < c ∨ (55296 ≤ c ∧ c ≤ 57343) ∨ sizeOf' c ≠ k + 1) : fin' k c = none := by
  unfold fin'
  split
  · rfl
  · split
    · rfl
    · split
      · rfl
      · rename_i a b e
        rcases h with h | h | h
        · exact absurd h a
        · exact absurd (decide_eq_true h) b
        · exact absurd h e
theorem fin_yes {k c : Int} (h1 : c ≤ 1114111) (h2 : ¬ (55296 ≤ c ∧ c ≤ 57343)) (h3 : sizeOf' c = k + 1) : fin' k c = some c := by
  unfold fin'
  rw [if_neg (by omega), if_neg (by simpa using h2), if_neg (by simpa using h3)]
theorem y_in {a b : Int} (ha : 224 ≤ a) (h : lo2 a ≤ b) (h2 : b ≤ hi2 a) : 128 ≤ b ∧ b ≤ 191 ∧ 32 ≤ 64 * (a - 224) + b - 128 ∧ ¬ (864 ≤ 64 * (a - 224) + b - 128 ∧ 64 * (a - 224) + b - 128 ≤ 895) := by
  unfold lo2 at h; unfold hi2 at h2
  split at h <;> split at h2 <;> omega
theorem y_out {a b : Int} (ha : 224 ≤ a) (hb : 128 ≤ b) (hb2 : b ≤ 191) (h : ¬ (lo2 a ≤ b ∧ b ≤ hi2 a)) : 64 * (a - 224) + b - 128 < 32 ∨ (864 ≤ 64 * (a - 224) + b - 128 ∧ 64 * (a - 224) + b - 128 ≤ 895) := by
  unfold lo2 hi2 at h
  split at h <;> split at h <;> omega
theorem x_in {a b : Int} (ha : 240 ≤ a) (ha2 : a ≤ 244) (h : lo3 a ≤ b) (h2 : b ≤ hi3 a) : 128 ≤ b ∧ b ≤ 191 ∧ 16 ≤ 64 * (a - 240) + b - 128 ∧ 64 * (a - 240) + b - 128 ≤ 271 := by
  unfold lo3 at h; unfold hi3 at h2
  split at h <;> split at h2 <;> omega
theorem x_out {a b : Int} (ha : 240 ≤ a) (ha2 : a ≤ 244) (hb : 128 ≤ b) (hb2 : b ≤ 191) (h : ¬ (lo3 a ≤ b ∧ b ≤ hi3 a)) : 64 * (a - 240) + b - 128 < 16 ∨ 271 < 64 * (a - 240) + b - 128 := by
  unfold lo3 hi3 at h
  split at h <;> split at h <;> omega
theorem core_eq {n a b c d : Int} (ha : 0 ≤ a) (ha2 : a < 256) (hb : 0 ≤ b ∧ b < 256) (hc : 0 ≤ c ∧ c < 256) (hd : 0 ≤ d ∧ d < 256) (hn : 0 < n) : wholeC n a b c d = lawC n a b c d := by
  unfold wholeC lawC
  simp only [foll_inR]
  by_cases h1 : a < 128
  · rw [ld0 h1, sec0 h1]
    have hl : ¬ n ≤ 0 := by omega
    simp only [hl, ↓reduceIte]
    exact fin_yes (by omega) (by omega) (sz1 h1)
  by_cases h2 : a < 192
  · have e1 : leadOf a = none := by unfold leadOf; rw [if_neg h1, if_neg (by omega), if_neg (by omega), if_neg (by omega)]
    have e2 : secondsOf a = none := by unfold secondsOf; rw [if_neg h1, if_neg (by omega), if_neg (by omega), if_neg (by omega)]
    rw [e1, e2]
  by_cases h3 : a < 194
  · have e2 : secondsOf a = none := by unfold secondsOf; rw [if_neg h1, if_neg (by omega), if_neg (by omega), if_neg (by omega)]
    rw [ld1 (by omega) (by omega), e2]
    simp only [Int.reduceEq, ↓reduceIte]
    by_cases hl : n ≤ 1
    · simp only [hl, ↓reduceIte]
    simp only [hl, ↓reduceIte]
    by_cases hr : 128 ≤ b ∧ b ≤ 191
    · simp only [inR_t hr.1 hr.2, ↓reduceIte]
      exact fin_no (.inr (.inr (by rw [sz1 (by omega)]; decide)))
    · simp only [inR_f hr, ↓reduceIte, Bool.false_eq_true]
  by_cases h4 : a < 224
  · rw [ld1 (by omega) (by omega), sec1 (by omega) (by omega)]
    simp only [Int.reduceEq, ↓reduceIte]
    by_cases hl : n ≤ 1
    · simp only [hl, ↓reduceIte]
    simp only [hl, ↓reduceIte]
    by_cases hr : 128 ≤ b ∧ b ≤ 191
    · simp only [inR_t hr.1 hr.2, ↓reduceIte]
      rw [fin_yes (by omega) (by omega) (sz2 (by omega) (by omega))]
      congr 1; omega
    · simp only [inR_f hr, ↓reduceIte, Bool.false_eq_true]
  by_cases h5 : a < 240
  · rw [ld2 (by omega) (by omega), sec2 (by omega) (by omega)]
    simp only [Int.reduceEq, ↓reduceIte]
    by_cases hl : n ≤ 2
    · simp only [hl, ↓reduceIte]
    simp only [hl, ↓reduceIte]
    have l1 : lo2 a = if a = 224 then 160 else 128 := rfl
    have l2 : hi2 a = if a = 237 then 159 else 191 := rfl
    by_cases hr : 128 ≤ b ∧ b ≤ 191
    · by_cases hc2 : 128 ≤ c ∧ c ≤ 191
      · by_cases hq : lo2 a ≤ b ∧ b ≤ hi2 a
        · simp only [inR_t hr.1 hr.2, inR_t hc2.1 hc2.2, inR_t hq.1 hq.2, Bool.and_self, ↓reduceIte]
          obtain ⟨_, _, y1, y2⟩ := y_in (by omega) hq.1 hq.2
          have : fin' 2 (((a - 224) * 64 + b - 128) * 64 + c - 128) = some (((a - 224) * 64 + b - 128) * 64 + c - 128) := by
            clear hq l1 l2
            refine fin_yes (by omega) (by omega) (sz3 (by omega) (by omega))
          rw [this]
          congr 1; omega
        · simp only [inR_t hr.1 hr.2, inR_t hc2.1 hc2.2, inR_f hq, Bool.and_self, Bool.false_and, Bool.false_eq_true, ↓reduceIte]
          rcases y_out (by omega) hr.1 hr.2 hq with y | y
          · refine fin_no (.inr (.inr (sz_l2 ?_)))
            clear hq l1 l2; omega
          · refine fin_no (.inr (.inl ?_))
            clear hq l1 l2; omega
      · simp only [inR_f hc2, Bool.and_false, Bool.false_eq_true, ↓reduceIte]
    · have : inR (lo2 a) b (hi2 a) = false := inR_f fun q => hr ⟨(y_in (by omega) q.1 q.2).1, (y_in (by omega) q.1 q.2).2.1⟩
      simp only [inR_f hr, this, Bool.false_and, Bool.false_eq_true, ↓reduceIte]
  by_cases h6 : a < 248
  · rw [ld3 (by omega) (by omega)]
    by_cases h7 : a ≤ 244
    · rw [sec3 (by omega) h7]
      simp only [Int.reduceEq, ↓reduceIte]
      by_cases hl : n ≤ 3
      · simp only [hl, ↓reduceIte]
      simp only [hl, ↓reduceIte]
      have l1 : lo3 a = if a = 240 then 144 else 128 := rfl
      have l2 : hi3 a = if a = 244 then 143 else 191 := rfl
      by_cases hr : 128 ≤ b ∧ b ≤ 191
      · by_cases hc2 : 128 ≤ c ∧ c ≤ 191
        · by_cases hd2 : 128 ≤ d ∧ d ≤ 191
          · by_cases hq : lo3 a ≤ b ∧ b ≤ hi3 a
            · simp only [inR_t hr.1 hr.2, inR_t hc2.1 hc2.2, inR_t hd2.1 hd2.2, inR_t hq.1 hq.2, Bool.and_self, ↓reduceIte]
              obtain ⟨_, _, x1, x2⟩ := x_in (by omega) h7 hq.1 hq.2
              have : fin' 3 ((((a - 240) * 64 + b - 128) * 64 + c - 128) * 64 + d - 128) = some ((((a - 240) * 64 + b - 128) * 64 + c - 128) * 64 + d - 128) := by
                clear hq l1 l2
                refine fin_yes (by omega) (by omega) (sz4 (by omega))
              rw [this]
              congr 1; omega
            · simp only [inR_t hr.1 hr.2, inR_t hc2.1 hc2.2, inR_t hd2.1 hd2.2, inR_f hq, Bool.and_self, Bool.false_and, Bool.false_eq_true, ↓reduceIte]
              rcases x_out (by omega) h7 hr.1 hr.2 hq with y | y
              · refine fin_no (.inr (.inr (sz_l3 ?_)))
                clear hq l1 l2; omega
              · refine fin_no (.inl ?_)
                clear hq l1 l2; omega
          · simp only [inR_f hd2, Bool.and_false, Bool.false_eq_true, ↓reduceIte]
        · simp only [inR_f hc2, Bool.and_false, Bool.false_and, Bool.false_eq_true, ↓reduceIte]
      · have : inR (lo3 a) b (hi3 a) = false := inR_f fun q => hr ⟨(x_in (by omega) h7 q.1 q.2).1, (x_in (by omega) h7 q.1 q.2).2.1⟩
        simp only [inR_f hr, this, Bool.false_and, Bool.false_eq_true, ↓reduceIte]
    · have e2 : secondsOf a = none := by unfold secondsOf; rw [if_neg h1, if_neg (by omega), if_neg (by omega), if_neg (by omega)]
      rw [e2]
      simp only [Int.reduceEq, ↓reduceIte]
      by_cases hl : n ≤ 3
      · simp only [hl, ↓reduceIte]
      simp only [hl, ↓reduceIte]
      by_cases hr : 128 ≤ b ∧ b ≤ 191
      · by_cases hc2 : 128 ≤ c ∧ c ≤ 191
        · by_cases hd2 : 128 ≤ d ∧ d ≤ 191
          · simp only [inR_t hr.1 hr.2, inR_t hc2.1 hc2.2, inR_t hd2.1 hd2.2, Bool.and_self, ↓reduceIte]
            exact fin_no (.inl (by omega))
          · simp only [inR_f hd2, Bool.and_false, Bool.false_eq_true, ↓reduceIte]
        · simp only [inR_f hc2, Bool.and_false, Bool.false_and, Bool.false_eq_true, ↓reduceIte]
      · simp only [inR_f hr, Bool.false_and, Bool.false_eq_true, ↓reduceIte]
  · have e1 : leadOf a = none := by unfold leadOf; rw [if_neg h1, if_neg (by omega), if_neg (by omega), if_neg (by omega)]
    have e2 : secondsOf a = none := by unfold secondsOf; rw [if_neg h1, if_neg (by omega), if_neg (by omega), if_neg (by omega)]
    rw [e1, e2]
theorem law_eq (pre ns : List Int) (hb : ∀ v ∈ ns, 0 ≤ v ∧ v < 256) (hl : 0 < ns.length) : wholeAt (pre ++ ns) pre.length = lawCode ns := by
  rw [wholeAt_C, lawCode_C]
  exact core_eq (getD_oct hb 0).1 (getD_oct hb 0).2 (getD_oct hb 1) (getD_oct hb 2) (getD_oct hb 3) (by omega)
theorem enc_law {ns : List Int} {c : Int} (hb : ∀ v ∈ ns, 0 ≤ v ∧ v < 256) (hl : 0 < ns.length) (h : lawCode ns = some c) :
    0 ≤ c ∧ c < 1114112 ∧ ns.take (sizeOf' c).toNat = encInts c ∧ (sizeOf' c).toNat ≤ ns.length := by
  rw [lawCode_C] at h
  obtain ⟨ha, ha2⟩ := getD_oct hb 0
  have tk1 : ns.take 1 = [ns.getD 0 0] := by
    match ns, hl with
    | x :: r, _ => rfl
  have tk2 : 2 ≤ ns.length → ns.take 2 = [ns.getD 0 0, ns.getD 1 0] := fun q => by
    match ns, q with
    | x :: y :: r, _ => rfl
  have tk3 : 3 ≤ ns.length → ns.take 3 = [ns.getD 0 0, ns.getD 1 0, ns.getD 2 0] := fun q => by
    match ns, q with
    | x :: y :: z :: r, _ => rfl
  have tk4 : 4 ≤ ns.length → ns.take 4 = [ns.getD 0 0, ns.getD 1 0, ns.getD 2 0, ns.getD 3 0] := fun q => by
    match ns, q with
    | x :: y :: z :: u :: r, _ => rfl
  generalize ns.getD 0 0 = a at *
  generalize ns.getD 1 0 = b at *
  generalize ns.getD 2 0 = d at *
  generalize ns.getD 3 0 = e at *
  unfold lawC at h
  by_cases h1 : a < 128
  · rw [sec0 h1] at h
    have hl' : ¬ (ns.length : Int) ≤ 0 := by omega
    simp only [hl', ↓reduceIte, Option.some.injEq] at h
    subst h
    rw [sz1 h1, en1 h1]
    exact ⟨ha, by omega, tk1, hl⟩
  by_cases h2 : a < 194
  · have e2 : secondsOf a = none := by unfold secondsOf; rw [if_neg h1, if_neg (by omega), if_neg (by omega), if_neg (by omega)]
    rw [e2] at h; cases h
  by_cases h3 : a < 224
  · rw [sec1 (by omega) (by omega)] at h
    simp only [Int.reduceEq, ↓reduceIte] at h
    by_cases hn : (ns.length : Int) ≤ 1
    · simp only [hn, ↓reduceIte] at h; cases h
    simp only [hn, ↓reduceIte] at h
    by_cases hr : 128 ≤ b ∧ b ≤ 191
    · simp only [inR_t hr.1 hr.2, ↓reduceIte, Option.some.injEq] at h
      rw [sz2 (by omega) (by omega), en2 (by omega) (by omega), fd64, fm64]
      refine ⟨by omega, by omega, (tk2 (by omega)).trans ?_, by show 2 ≤ _; omega⟩
      rw [show 192 + c / 64 = a by omega, show 128 + c % 64 = b by omega]
    · simp only [inR_f hr, Bool.false_eq_true, ↓reduceIte] at h; cases h
  by_cases h5 : a < 240
  · rw [sec2 (by omega) (by omega)] at h
    simp only [Int.reduceEq, ↓reduceIte] at h
    by_cases hn : (ns.length : Int) ≤ 2
    · simp only [hn, ↓reduceIte] at h; cases h
    simp only [hn, ↓reduceIte] at h
    have l1 : lo2 a = if a = 224 then 160 else 128 := rfl
    have l2 : hi2 a = if a = 237 then 159 else 191 := rfl
    by_cases hq : lo2 a ≤ b ∧ b ≤ hi2 a
    · by_cases hc2 : 128 ≤ d ∧ d ≤ 191
      · simp only [inR_t hq.1 hq.2, inR_t hc2.1 hc2.2, Bool.and_self, ↓reduceIte, Option.some.injEq] at h
        obtain ⟨b0, b1, y1, _⟩ := y_in (by omega) hq.1 hq.2
        clear hq l1 l2
        have b2 : 2048 ≤ c := by omega
        rw [sz3 b2 (by omega), en3 b2 (by omega), fd64, fm64, fd64, fm64]
        refine ⟨by omega, by omega, (tk3 (by omega)).trans ?_, by show 3 ≤ _; omega⟩
        rw [show 224 + c / 64 / 64 = a by omega, show 128 + c / 64 % 64 = b by omega, show 128 + c % 64 = d by omega]
      · simp only [inR_f hc2, Bool.and_false, Bool.false_eq_true, ↓reduceIte] at h; cases h
    · simp only [inR_f hq, Bool.false_and, Bool.false_eq_true, ↓reduceIte] at h; cases h
  by_cases h7 : a ≤ 244
  · rw [sec3 (by omega) h7] at h
    simp only [Int.reduceEq, ↓reduceIte] at h
    by_cases hn : (ns.length : Int) ≤ 3
    · simp only [hn, ↓reduceIte] at h; cases h
    simp only [hn, ↓reduceIte] at h
    have l1 : lo3 a = if a = 240 then 144 else 128 := rfl
    have l2 : hi3 a = if a = 244 then 143 else 191 := rfl
    by_cases hq : lo3 a ≤ b ∧ b ≤ hi3 a
    · by_cases hc2 : 128 ≤ d ∧ d ≤ 191
      · by_cases hd2 : 128 ≤ e ∧ e ≤ 191
        · simp only [inR_t hq.1 hq.2, inR_t hc2.1 hc2.2, inR_t hd2.1 hd2.2, Bool.and_self, ↓reduceIte, Option.some.injEq] at h
          obtain ⟨b0, b1, y1, y2⟩ := x_in (by omega) h7 hq.1 hq.2
          clear hq l1 l2
          have b2 : 65536 ≤ c := by omega
          have b3 : c < 1114112 := by omega
          rw [sz4 b2, en4 b2, fd64, fm64, fd64, fm64, fd64, fm64]
          refine ⟨by omega, b3, (tk4 (by omega)).trans ?_, by show 4 ≤ _; omega⟩
          rw [show 240 + c / 64 / 64 / 64 = a by omega, show 128 + c / 64 / 64 % 64 = b by omega, show 128 + c / 64 % 64 = d by omega, show 128 + c % 64 = e by omega]
        · simp only [inR_f hd2, Bool.and_false, Bool.false_eq_true, ↓reduceIte] at h; cases h
      · simp only [inR_f hc2, Bool.and_false, Bool.false_and, Bool.false_eq_true, ↓reduceIte] at h; cases h
    · simp only [inR_f hq, Bool.false_and, Bool.false_eq_true, ↓reduceIte] at h; cases h
  · have e2 : secondsOf a = none := by unfold secondsOf; rw [if_neg h1, if_neg (by omega), if_neg (by omega), if_neg (by omega)]
    rw [e2] at h; cases h

end

section
theorem whole_S (w : World) (mean : ExcName → Option Value) (mg mb : Str → Option Value) (news : List (Addr × Obj)) (b : Array UInt8) (tb ta : Tok) (ks : List Int) (c : Int)
    (hb : KBw.bInts b = ks) (hl : ks.length ≤ 16) (hp : 0 < ks.length) (e : wholeAt ks 0 = some c) :
    Con w mean mg mb 90 [.bytes b tb, .int 0 ta] news 2 16 (fun G q => ∀ t h' tk', G h' news → q (.int c t) h' tk') := by
  intro dp un gd cn cs a ccd cl outer A₀ base h₀ L m s Q E B F X N T hk hd hu hret
  exact whole_at_con w mean mg mb news b tb ta ks 0 hb hl hp dp un gd cn cs a ccd cl outer A₀ base h₀ L m s Q E B F X N T hk hd hu (And.intro (fun n => by rw [n] at e; cases e) (fun c' t h' tk' n g => by rw [n] at e; cases e; exact hret t h' tk' g))
theorem whole_N (w : World) (mean : ExcName → Option Value) (mg mb : Str → Option Value) (news : List (Addr × Obj)) (b : Array UInt8) (tb ta : Tok) (ks : List Int)
    (hb : KBw.bInts b = ks) (hl : ks.length ≤ 16) (hp : 0 < ks.length) (e : wholeAt ks 0 = none) :
    Con w mean mg mb 90 [.bytes b tb, .int 0 ta] news 2 16 (fun G q => ∀ h' tk', G h' news → q .none h' tk') := by
  intro dp un gd cn cs a ccd cl outer A₀ base h₀ L m s Q E B F X N T hk hd hu hret
  exact whole_at_con w mean mg mb news b tb ta ks 0 hb hl hp dp un gd cn cs a ccd cl outer A₀ base h₀ L m s Q E B F X N T hk hd hu (And.intro (fun _ h' tk' g => hret h' tk' g) (fun c' t h' tk' n g => by rw [n] at e; cases e))

end

section
/-! the law's own text, by projection; its source; its comprehension -/
def bodyOf : Stmt → List Stmt
  | .FunctionDef _ _ b _ _ _ _ _ _ _ => b
  | .For _ _ b _ _ => b
  | _ => []
def scopeOf : Stmt → Scope
  | .FunctionDef _ _ _ _ _ _ s _ _ _ => s
  | _ => { kind := .module, names := [], isGenerator := false, isCoroutine := false }
def lawF : Stmt := PySem.Challenge.pw_xm0683_01.main.body.getLastD (.Pass ⟨0, 0, 0, 0⟩)
def lawB : List Stmt := bodyOf lawF
def lawS : Scope := scopeOf lawF
def leadFor : Stmt := (lawB.drop 5).headD (.Pass ⟨0, 0, 0, 0⟩)
def turnFor : Stmt := (bodyOf leadFor).headD (.Pass ⟨0, 0, 0, 0⟩)
def inner : List Stmt := bodyOf turnFor

abbrev lawCells (cS cO : Addr) : List (Str × Addr) := [(PySem.Str.ofString "some", cO), (PySem.Str.ofString "source", cS)]
def SrcOk (vs : List Value) : Prop := ∃ x y, IntsAre vs [x, y] ∧ 0 ≤ x ∧ 0 ≤ y ∧ y < 2147483647
def SrcInv (pre : List (Addr × Obj)) (src : Addr) (post nw : List (Addr × Obj)) : Prop := ∃ vs n, SrcOk vs ∧ nw = pre ++ (src, listOf vs.toArray n) :: post
def Octs (ns : List Int) : Prop := ∀ v ∈ ns, 0 ≤ v ∧ v < 256
theorem Octs.nil : Octs [] := fun _ h => nomatch h
theorem Octs.cons {x : Int} {l : List Int} (h : 0 ≤ x ∧ x < 256) (r : Octs l) : Octs (x :: l) := in_cons h r
theorem Octs.append {a b : List Int} (h : Octs a) (r : Octs b) : Octs (a ++ b) := fun v hv => (List.mem_append.mp hv).elim (h v) (r v)
theorem Octs.rep {x : Int} {k : Nat} (h : 0 ≤ x ∧ x < 256) : Octs (List.replicate k x) := fun v hv => by rw [(List.mem_replicate.mp hv).2]; exact h
theorem Octs.take {a : List Int} {k : Nat} (h : Octs a) : Octs (a.take k) := fun v hv => h v (List.mem_of_mem_take hv)
theorem getD_in {R : Int → Prop} {xs : List Int} (h : ∀ v ∈ xs, R v) {d : Int} (h0 : 0 ≤ d) (h1 : d < (xs.length : Int)) : R (xs.getD d.toNat 0) := by
  have hl : d.toNat < xs.length := by omega
  rw [List.getD_eq_getElem?_getD, List.getElem?_eq_getElem hl]
  exact h _ (List.getElem_mem hl)

section
variable {w : World} {mean : ExcName → Option Value} {mg mb : Str → Option Value} {dp un : Nat} {gd : Option (List Code)} {cn : Str} {cs : Scope} {a : Addr} {ccd : Value} {cl : List (Str × Addr)} {outer : List Env} {A₀ : Around} {base h₀ : Heap} {L : Addr} {m : Str → Option Value} {s : Shared} {Q E : Value → Shared → Prop}
variable {pre post : List (Addr × Obj)} {src thg : Addr} {n k : Nat} {vs us : List Value} {xs : List Int} {top : Int} {tt : Tok}
theorem take_use (B : Below A₀ base outer h₀) (F : Fr h₀ L s.heap m) (X : (Mine.hd.heap_39 w.params).In h₀) (N : News h₀ L s.heap (pre ++ (src, listOf vs.toArray n) :: post))
    (T : Top Mine.hd.view_39 (looseW Mine.hd.view_39 [PySem.Str.ofString "RowsError", PySem.Str.ofString "LIMITS"]) mean mg mb h₀) (hk : cs.kind = .function) (hd : dp + 1 < recursionLimit) (hu : un + 8 < cLine)
    (hi : SrcOk vs) (ht : 0 < top) (ht2 : top ≤ 8) (h1 : ∀ p ∈ pre, p.1 ≠ src) (h2 : ∀ p ∈ post, p.1 ≠ src)
    (ret : ∀ (j : Nat) t vs' n' h' tk', (j : Int) < top → SrcOk vs' → Fr h₀ L h' m → News h₀ L h' (pre ++ (src, listOf vs'.toArray n') :: post) → Q (.int (j : Int) t) { s with heap := h', toks := tk' }) :
    wpAny (model (PySem.W.OpenLaw.row PySem.Challenge.rw_xm0683_01).prog w) (ktrTop dp un gd cn cs L a ccd cl outer) (call (.ref 104) [.ref src, .int top tt]) Q E s := by
  obtain ⟨x, y, hi, hx, hy, hy2⟩ := hi
  refine con_use (take_con w mean mg mb (pre ++ post) src x y top tt n vs hi hx hy hy2 ht ht2 fun p hp => (List.mem_append.mp hp).elim (h1 p) (h2 p)) B F X (news_mid.2 N) T hk hd hu ?_
  intro d t x' y' vs' n' h' tk' d0 d1 hi' hx' hy' hy2' g
  obtain ⟨j, rfl⟩ := Int.eq_ofNat_of_zero_le d0
  exact ret j t vs' n' h' tk' d1 ⟨x', y', hi', hx', hy', hy2'⟩ g.1 (news_mid.1 g.2)
theorem one_use (R : Int → Prop) (B : Below A₀ base outer h₀) (F : Fr h₀ L s.heap m) (X : (Mine.hd.heap_39 w.params).In h₀) (N : News h₀ L s.heap (pre ++ (src, listOf vs.toArray n) :: post))
    (T : Top Mine.hd.view_39 (looseW Mine.hd.view_39 [PySem.Str.ofString "RowsError", PySem.Str.ofString "LIMITS"]) mean mg mb h₀) (hk : cs.kind = .function) (hd : dp + 2 < recursionLimit) (hu : un + 16 < cLine)
    (hi : SrcOk vs) (hm : (thg, listOf us.toArray k) ∈ pre ++ post) (hj : IntsAre us xs) (hl : 0 < xs.length) (hl8 : xs.length ≤ 8) (hR : ∀ v ∈ xs, R v) (h1 : ∀ p ∈ pre, p.1 ≠ src) (h2 : ∀ p ∈ post, p.1 ≠ src)
    (ret : ∀ r t vs' n' h' tk', R r → SrcOk vs' → Fr h₀ L h' m → News h₀ L h' (pre ++ (src, listOf vs'.toArray n') :: post) → Q (.int r t) { s with heap := h', toks := tk' }) :
    wpAny (model (PySem.W.OpenLaw.row PySem.Challenge.rw_xm0683_01).prog w) (ktrTop dp un gd cn cs L a ccd cl outer) (call (.ref 111) [.ref src, .ref thg]) Q E s := by
  obtain ⟨x, y, hi, hx, hy, hy2⟩ := hi
  refine con_use (one_con w mean mg mb (pre ++ post) src thg x y n k vs us xs hi hx hy hy2 (fun p hp => (List.mem_append.mp hp).elim (h1 p) (h2 p)) hm hj hl hl8) B F X (news_mid.2 N) T hk hd hu ?_
  intro d t x' y' vs' n' h' tk' d0 d1 hi' hx' hy' hy2' g
  exact ret _ t vs' n' h' tk' (getD_in hR d0 d1) ⟨x', y', hi', hx', hy', hy2'⟩ g.1 (news_mid.1 g.2)
end

section
variable {prog : Program} {w : World} {A : Around} {h₀ : Heap} {L : Addr} {m : Str → Option Value} {env : Env} {elt : PySem.Expr} {x : Str} {scope : Scope} {cl : List (Str × Addr)} {s : Shared} {S : List (Addr × Obj) → Prop} {P : Nat → Value → Prop} {Fin : List Value → List (Addr × Obj) → Prop}
theorem comp_inv (Inv : List (Addr × Obj) → Prop) (R : Int → Prop) {n : Nat} {news : List (Addr × Obj)}
    (turn : ∀ nw v I oI C oC D m₂ ys h tk (E' : Value → Shared → Prop), Inv nw → LCg.NsObj oC m₂ → m₂ x = some v → Fr h₀ L h m → News h₀ L h ((I, oI) :: (C, oC) :: (D, LCg.lst ys) :: nw) → LCg.Off3 I C D nw → ((@Ne Nat I C) ∧ (@Ne Nat I D) ∧ (@Ne Nat C D)) →
      wpAny (model prog w) A (eval elt (compEnvC scope cl C env)) (LCg.CompEnd h₀ L m { s with heap := h, toks := tk } I oI C oC D (LCg.lst ys) S (fun y nw' => (∃ r t, y = .int r t ∧ R r) ∧ Inv nw')) E' { s with heap := h, toks := tk })
    (h0 : Inv news) (fin : ∀ ys ns nw, IntsAre ys ns → ns.length = n → (∀ r ∈ ns, R r) → Inv nw → Fin ys nw) : LCg.CompRest prog w A h₀ L m env elt x scope cl s S P Fin n 0 [] news := by
  have key : ∀ (j i : Nat) (ys : List Value) (ns : List Int) (nw : List (Addr × Obj)), i + j = n → ns.length = i → IntsAre ys ns → (∀ r ∈ ns, R r) → Inv nw → LCg.CompRest prog w A h₀ L m env elt x scope cl s S P Fin j i ys nw := by
    intro j
    induction j with
    | zero => intro i ys ns nw hi hl hy hr hI; exact LCg.CompRest.zero (fin ys ns nw hy (by omega) hr hI)
    | succ j ih =>
      intro i ys ns nw hi hl hy hr hI
      refine LCg.CompRest.succ ?_
      intro v I oI C oC D m₂ h tk E' hv hC hx F N off ne
      refine wpAny_mono (turn nw v I oI C oC D m₂ ys h tk E' hI hC hx F N off ne) (fun y s₂ hq => ?_) fun _ _ e => e
      obtain ⟨h', tk', nw', e, F', N', off', hS, ⟨r, t, hy', hR⟩, hI'⟩ := hq
      refine ⟨h', tk', nw', e, F', N', off', hS, ?_⟩
      subst hy'
      exact ih (i + 1) _ (ns ++ [r]) nw' (by omega) (by simp [hl]) (IntsAre.append hy (.cons r t .nil)) (fun q hq => by
        rcases List.mem_append.mp hq with hq | hq
        · exact hr q hq
        · rw [List.mem_singleton.mp hq]; exact hR) hI'
  exact key n 0 [] [] news (by omega) rfl .nil (fun _ h => nomatch h) h0
end
section
variable {prog : Program} {w : World} {A : Around} {E : Value → Shared → Prop} {s : Shared} {h₀ : Heap} {L l : Addr} {m : Str → Option Value} {news : List (Addr × Obj)} {vs : List Value} {c : Int} {k : Nat} {u : Tok} {Q : Value → Shared → Prop}
theorem ints_flat {vs : List Value} {c : Int} (h : IntsAre vs [c]) : ∀ k : Nat, IntsAre (List.replicate k vs).flatten (List.replicate k c)
  | 0 => .nil
  | k + 1 => by
    rw [List.replicate_succ, List.replicate_succ, List.flatten_cons]
    exact IntsAre.append h (ints_flat h k)
theorem mul_rep (F : Fr h₀ L s.heap m) (N : News h₀ L s.heap news) (hl : s.heap.IsList l vs.toArray) (hv : IntsAre vs [c]) (hk : (k : Int) < 8)
    (h : ∀ D ws h', Fr h₀ L h' m → News h₀ L h' ((D, listOf (List.toArray ws) 0) :: news) → (∀ p ∈ news, p.1 < D) → IntsAre ws (List.replicate k c) → Q (.ref D) { s with heap := h' }) : wpAny (model prog w) A (binaryOp .Mult (.ref l) (.int (k : Int) u)) Q E s := by
  have e1 : vs.length = 1 := hv.length
  refine KMa.mul F N hl (by omega) (by omega) (by rw [e1]; omega) rfl fun D h' F' N' l1 => ?_
  rw [Int.toNat_natCast] at N'
  exact h D _ h' F' N' l1 (ints_flat hv k)
end
theorem compEnd_srcs {h₀ : Heap} {L I C D : Addr} {m : Str → Option Value} {s₁ : Shared} {oI oC oD : Obj} {S : List (Addr × Obj) → Prop} {rest : Value → List (Addr × Obj) → Prop} {y : Value} {h' : Heap} {tk : Nat} {news' : List (Addr × Obj)}
    (F : Fr h₀ L h' m) (N : News h₀ L h' ((I, oI) :: (C, oC) :: (D, oD) :: news')) (off : LCg.Off3 I C D news') (hS : S news') (r : rest y news') :
    LCg.CompEnd h₀ L m s₁ I oI C oC D oD S rest y { s₁ with heap := h', toks := tk } := LCg.CompEnd.intro F N news' (fun _ hp => hp) off hS r
theorem news_sub {h₀ h : Heap} {L : Addr} {l l' : List (Addr × Obj)} (N : News h₀ L h l) (hs : ∀ p ∈ l', p ∈ l) : News h₀ L h l' := fun p hp => N p (hs p hp)

end

section
set_option maxRecDepth 100000 in
set_option maxHeartbeats 8000000 in
theorem rows_ok {w : World} {mean : ExcName → Option Value} {mg mb : Str → Option Value} {dp un : Nat} {gd : Option (List Code)} {cn : Str} {a : Addr} {ccd : Value} {outer : List Env} {A₀ : Around} {base h₀ : Heap} {L : Addr} {m : Str → Option Value} {s : Shared} {Q : Flow → Shared → Prop} {E : Value → Shared → Prop}
    {cS cO src : Addr} {oO oS : Obj} {vO : Option Value} {rest : List (Addr × Obj)} {vs : List Value} {n : Nat} {x : Int} {tx : Tok} {more : List Stmt}
    (B : Below A₀ base outer h₀) (F : Fr h₀ L s.heap m) (X : (Mine.hd.heap_39 w.params).In h₀) (N : News h₀ L s.heap ((src, listOf vs.toArray n) :: (cO, oO) :: (cS, oS) :: rest))
    (T : Top Mine.hd.view_39 (looseW Mine.hd.view_39 [PySem.Str.ofString "RowsError", PySem.Str.ofString "LIMITS"]) mean mg mb h₀)
    (hd : dp + 8 < recursionLimit) (hu : un + 300 < cLine) (e1 : @Ne Nat src cO) (e2 : @Ne Nat src cS) (e3 : @Ne Nat cO cS) (r1 : ∀ p ∈ rest, p.1 ≠ src) (r2 : ∀ p ∈ rest, p.1 ≠ cO)
    (hO : oO.data = .cell vO) (hS : oS.data = .cell (some (.ref src))) (hi : SrcOk vs) (hm : m (PySem.Str.ofString "lead") = some (.int x tx)) (hx : 0 ≤ x ∧ x < 256)
    (ret : ∀ (D1 D2 D3 : Addr) (ws1 ws2 ws3 : List Value) (n1 n2 n3 : Nat) (ns1 ns2 ns3 : List Int) (vs' : List Value) (n' : Nat) (oO' : Obj) (v' : Value) (m' : Str → Option Value) (h' : Heap) (tk' : Nat),
      Fr h₀ L h' m' → News h₀ L h' ((D3, listOf ws3.toArray n3) :: (D2, listOf ws2.toArray n2) :: (D1, listOf ws1.toArray n1) :: (src, listOf vs'.toArray n') :: (cO, oO') :: (cS, oS) :: rest) →
      SrcOk vs' → oO'.data = .cell (some v') → m' (PySem.Str.ofString "row") = some (.ref D1) → m' (PySem.Str.ofString "ahead") = some (.ref D2) → m' (PySem.Str.ofString "behind") = some (.ref D3) →
      (∀ z, z ≠ PySem.Str.ofString "row" → z ≠ PySem.Str.ofString "ahead" → z ≠ PySem.Str.ofString "behind" → m' z = m z) → IntsAre ws1 ns1 → IntsAre ws2 ns2 → IntsAre ws3 ns3 →
      0 < ns1.length → ns1.length ≤ 4 → ns2.length ≤ 2 → ns3.length ≤ 1 → Octs ns1 → Octs ns2 → Octs ns3 →
      wpAny (model (PySem.W.OpenLaw.row PySem.Challenge.rw_xm0683_01).prog w) (ktrTop dp un gd cn lawS L a ccd (lawCells cS cO) outer) (execs more (envX cn lawS L a ccd (lawCells cS cO))) Q E { s with heap := h', toks := tk' }) :
    wpAny (model (PySem.W.OpenLaw.row PySem.Challenge.rw_xm0683_01).prog w) (ktrTop dp un gd cn lawS L a ccd (lawCells cS cO) outer) (execs (inner.take 3 ++ more) (envX cn lawS L a ccd (lawCells cS cO))) Q E s := by
  w_top off
  k_with_none
  k_with "UnrEnd" => ((first
    | (refine unrEnd_mid (pre := []) (by k_asm) (by k_asm) (by k_all) (by k_all) ?_; k_whole)
    | (refine unrEnd_mid (pre := [_]) (by k_asm) (by k_asm) (by k_all) (by k_all) ?_; k_whole)
    | (refine unrEnd_mid (pre := [_, _]) (by k_asm) (by k_asm) (by k_all) (by k_all) ?_; k_whole)
    | (refine unrEnd_mid (pre := [_, _, _]) (by k_asm) (by k_asm) (by k_all) (by k_all) ?_; k_whole)
    | (refine unrEnd_mid (pre := [_, _, _, _]) (by k_asm) (by k_asm) (by k_all) (by k_all) ?_; k_whole)); (try dsimp only [List.cons_append, List.nil_append]))
  k_with "mine.and" => (first | assumption | exact And.left (by assumption) | exact And.left (And.right (by assumption)) | exact And.right (by assumption) | exact And.left (And.right (And.right (by assumption))) | exact And.right (And.right (by assumption)) | exact And.left (And.right (And.right (And.right (by assumption)))) | exact And.right (And.right (And.right (by assumption))) | exact And.left (And.right (And.right (And.right (And.right (by assumption))))) | exact And.right (And.right (And.right (And.right (by assumption)))) | exact And.left (And.right (And.right (And.right (And.right (And.right (by assumption)))))) | exact And.right (And.right (And.right (And.right (And.right (by assumption))))) | exact And.left (And.right (And.right (And.right (And.right (And.right (And.right (by assumption))))))) | exact And.right (And.right (And.right (And.right (And.right (And.right (by assumption)))))) | exact And.left (And.right (And.right (And.right (And.right (And.right (And.right (And.right (by assumption)))))))) | exact And.right (And.right (And.right (And.right (And.right (And.right (And.right (by assumption))))))) | exact And.left (And.right (And.right (And.right (And.right (And.right (And.right (And.right (And.right (by assumption))))))))) | exact And.right (And.right (And.right (And.right (And.right (And.right (And.right (And.right (by assumption)))))))) | exact And.left (And.right (And.right (And.right (And.right (And.right (And.right (And.right (And.right (And.right (by assumption)))))))))) | exact And.right (And.right (And.right (And.right (And.right (And.right (And.right (And.right (And.right (by assumption))))))))) | exact And.left (And.right (And.right (And.right (And.right (And.right (And.right (And.right (And.right (And.right (And.right (by assumption))))))))))) | exact And.right (And.right (And.right (And.right (And.right (And.right (And.right (And.right (And.right (And.right (by assumption)))))))))) | exact And.left (And.right (And.right (And.right (And.right (And.right (And.right (And.right (And.right (And.right (And.right (And.right (by assumption)))))))))))) | exact And.right (And.right (And.right (And.right (And.right (And.right (And.right (And.right (And.right (And.right (And.right (by assumption))))))))))) | exact And.left (And.right (And.right (And.right (And.right (And.right (And.right (And.right (And.right (And.right (And.right (And.right (And.right (by assumption))))))))))))) | exact And.right (And.right (And.right (And.right (And.right (And.right (And.right (And.right (And.right (And.right (And.right (And.right (by assumption)))))))))))) | exact And.left (And.right (And.right (And.right (And.right (And.right (And.right (And.right (And.right (And.right (And.right (And.right (And.right (And.right (by assumption)))))))))))))) | exact And.right (And.right (And.right (And.right (And.right (And.right (And.right (And.right (And.right (And.right (And.right (And.right (And.right (by assumption))))))))))))) | exact And.left (And.right (And.right (And.right (And.right (And.right (And.right (And.right (And.right (And.right (And.right (And.right (And.right (And.right (And.right (by assumption))))))))))))))) | exact And.right (And.right (And.right (And.right (And.right (And.right (And.right (And.right (And.right (And.right (And.right (And.right (And.right (And.right (by assumption)))))))))))))) | exact And.left (And.right (And.right (And.right (And.right (And.right (And.right (And.right (And.right (And.right (And.right (And.right (And.right (And.right (And.right (And.right (by assumption)))))))))))))))) | exact And.right (And.right (And.right (And.right (And.right (And.right (And.right (And.right (And.right (And.right (And.right (And.right (And.right (And.right (And.right (by assumption))))))))))))))) | exact And.left (And.right (And.right (And.right (And.right (And.right (And.right (And.right (And.right (And.right (And.right (And.right (And.right (And.right (And.right (And.right (And.right (by assumption))))))))))))))))) | exact And.right (And.right (And.right (And.right (And.right (And.right (And.right (And.right (And.right (And.right (And.right (And.right (And.right (And.right (And.right (And.right (by assumption)))))))))))))))) | exact And.left (And.right (And.right (And.right (And.right (And.right (And.right (And.right (And.right (And.right (And.right (And.right (And.right (And.right (And.right (And.right (And.right (And.right (by assumption)))))))))))))))))) | exact And.right (And.right (And.right (And.right (And.right (And.right (And.right (And.right (And.right (And.right (And.right (And.right (And.right (And.right (And.right (And.right (And.right (by assumption))))))))))))))))))
  k_with "call ref" => (
    k_here
    (with_reducible show wpAny _ _ (call (Value.ref 104) [Value.ref _, Value.int _ _]) _ _ _)
    k_dflt (first
      | (refine take_use (pre := []) (by k_asm) (by k_asm) (by k_asm) (by k_asm) (by k_asm) (by exact rfl) (by ktr_room) (by ktr_units) (by assumption) (by decide) (by decide) (by k_all) (by k_all) ?_)
      | (refine take_use (pre := [_]) (by k_asm) (by k_asm) (by k_asm) (by k_asm) (by k_asm) (by exact rfl) (by ktr_room) (by ktr_units) (by assumption) (by decide) (by decide) (by k_all) (by k_all) ?_)
      | (refine take_use (pre := [_, _]) (by k_asm) (by k_asm) (by k_asm) (by k_asm) (by k_asm) (by exact rfl) (by ktr_room) (by ktr_units) (by assumption) (by decide) (by decide) (by k_all) (by k_all) ?_)
      | (refine take_use (pre := [_, _, _]) (by k_asm) (by k_asm) (by k_asm) (by k_asm) (by k_asm) (by exact rfl) (by ktr_room) (by ktr_units) (by assumption) (by decide) (by decide) (by k_all) (by k_all) ?_)
      | (refine take_use (pre := [_, _, _, _]) (by k_asm) (by k_asm) (by k_asm) (by k_asm) (by k_asm) (by exact rfl) (by ktr_room) (by ktr_units) (by assumption) (by decide) (by decide) (by k_all) (by k_all) ?_)
      | (refine take_use (pre := [_, _, _, _, _]) (by k_asm) (by k_asm) (by k_asm) (by k_asm) (by k_asm) (by exact rfl) (by ktr_room) (by ktr_units) (by assumption) (by decide) (by decide) (by k_all) (by k_all) ?_)
      | (refine take_use (pre := [_, _, _, _, _, _]) (by k_asm) (by k_asm) (by k_asm) (by k_asm) (by k_asm) (by exact rfl) (by ktr_room) (by ktr_units) (by assumption) (by decide) (by decide) (by k_all) (by k_all) ?_)
      | (refine take_use (pre := [_, _, _, _, _, _, _]) (by k_asm) (by k_asm) (by k_asm) (by k_asm) (by k_asm) (by exact rfl) (by ktr_room) (by ktr_units) (by assumption) (by decide) (by decide) (by k_all) (by k_all) ?_)
      | (refine take_use (pre := [_, _, _, _, _, _, _, _]) (by k_asm) (by k_asm) (by k_asm) (by k_asm) (by k_asm) (by exact rfl) (by ktr_room) (by ktr_units) (by assumption) (by decide) (by decide) (by k_all) (by k_all) ?_))
    intro j' t' vs' n' h' tk' hj' hs' F' N'
    (try dsimp only [List.cons_append, List.nil_append] at N')
    (try k_fold)
    (try k_sweep))
  k_with "eval Name" => (k_here; (with_reducible show wpAny _ _ (eval (PySem.Expr.Name (PySem.Str.ofString "lead") _) _) _ _ _); k_dflt (refine nameX_L (by k_asm) (by with_reducible assumption) ?_; k_whole))
  k_with "eval ListComp" => (k_here; k_dflt (refine LCg.ListComp_U (F₀ := by k_asm) (by with_unfolding_all rfl) (by decide) (by rfl) (by decide) (by rfl) ?_))
  k_with "call ref" => (
    k_here
    (with_reducible show wpAny _ _ (call (Value.ref 111) [Value.ref _, Value.ref _]) _ _ _)
    k_dflt (first
      | (refine one_use (pre := [_, _, _]) (xs := [128, 191, 143, 144, 159, 160, 127, 192]) (us := [_, _, _, _, _, _, _, _]) (fun r => 0 ≤ r ∧ r < 256) (by k_asm) (by k_asm) (by k_asm) (by k_asm) (by k_asm) (by exact rfl) (by ktr_room) (by ktr_units) (by assumption) (by ((try dsimp only [List.cons_append, List.nil_append]); k_mem)) (by repeat constructor) (by decide) (by decide) (by decide) (by k_all) (by k_all) ?_)
      | (refine one_use (pre := [_, _, _, _]) (xs := [128, 191, 143, 144, 159, 160, 127, 192]) (us := [_, _, _, _, _, _, _, _]) (fun r => 0 ≤ r ∧ r < 256) (by k_asm) (by k_asm) (by k_asm) (by k_asm) (by k_asm) (by exact rfl) (by ktr_room) (by ktr_units) (by assumption) (by ((try dsimp only [List.cons_append, List.nil_append]); k_mem)) (by repeat constructor) (by decide) (by decide) (by decide) (by k_all) (by k_all) ?_)
      | (refine one_use (pre := [_, _, _, _, _]) (xs := [128, 191, 143, 144, 159, 160, 127, 192]) (us := [_, _, _, _, _, _, _, _]) (fun r => 0 ≤ r ∧ r < 256) (by k_asm) (by k_asm) (by k_asm) (by k_asm) (by k_asm) (by exact rfl) (by ktr_room) (by ktr_units) (by assumption) (by ((try dsimp only [List.cons_append, List.nil_append]); k_mem)) (by repeat constructor) (by decide) (by decide) (by decide) (by k_all) (by k_all) ?_)
      | (refine one_use (pre := [_, _, _, _, _, _]) (xs := [128, 191, 143, 144, 159, 160, 127, 192]) (us := [_, _, _, _, _, _, _, _]) (fun r => 0 ≤ r ∧ r < 256) (by k_asm) (by k_asm) (by k_asm) (by k_asm) (by k_asm) (by exact rfl) (by ktr_room) (by ktr_units) (by assumption) (by ((try dsimp only [List.cons_append, List.nil_append]); k_mem)) (by repeat constructor) (by decide) (by decide) (by decide) (by k_all) (by k_all) ?_)
      | (refine one_use (pre := [_, _, _, _, _, _, _]) (xs := [128, 191, 143, 144, 159, 160, 127, 192]) (us := [_, _, _, _, _, _, _, _]) (fun r => 0 ≤ r ∧ r < 256) (by k_asm) (by k_asm) (by k_asm) (by k_asm) (by k_asm) (by exact rfl) (by ktr_room) (by ktr_units) (by assumption) (by ((try dsimp only [List.cons_append, List.nil_append]); k_mem)) (by repeat constructor) (by decide) (by decide) (by decide) (by k_all) (by k_all) ?_))
    intro r' t' vs' n' h' tk' hr' hs' F' N'
    (try dsimp only [List.cons_append, List.nil_append] at N'))
  k_with "CompSrc" => (
    k_here
    k_dflt (refine LCg.CompSrc.range (by rfl) (by k_asm) (by k_asm) (by assumption) (by exact small_one (by omega) (by omega) (by omega) (by omega)) (by exact rangeSize_nat _ _) (by rw [PySem.sizeLine_eq]; omega) ?_)
    intro g'
    k_dflt (refine comp_inv (SrcInv [_, _] _ _) (fun r => 0 ≤ r ∧ r < 256) ?_ ⟨_, _, by assumption, rfl⟩ ?_)
    intro nw' v' I' oI' C' oC' D' m' ys' h' tk' E' hInv' hC' hx' F' N' off' ne'
    k_dflt (obtain ⟨vs₁', n₁', hs₁', eN'⟩ := hInv')
    subst eN'
    (try dsimp only [List.cons_append, List.nil_append] at N')
    have off2' := off'
    (simp only [List.cons_append, List.nil_append, LCg.Off3, and_assoc] at off2')
    (try k_fold)
    rotate_left
    intro ys' ns' nw' hI' hl' hR' hInv'
    k_dflt (obtain ⟨vs₁', n₁', hs₁', eN'⟩ := hInv')
    subst eN'
    (unfold LCg.FinE)
    intro D' h' tk' F' N' o1'
    (try dsimp only [List.cons_append, List.nil_append] at N')
    (simp only [List.cons_append, List.nil_append, LCg.Off1] at o1')
    (try k_fold)
    rotate_left)
  k_with "CompEnd" => (k_here; k_dflt (exact compEnd_srcs (by k_asm) (by k_asm) (by assumption) True.intro ⟨⟨_, _, rfl, by assumption⟩, ⟨_, _, by assumption, rfl⟩⟩))
  k_with "binaryOp Mult ref int" => (
    k_here
    (with_reducible show wpAny _ _ (binaryOp Operator.Mult (Value.ref _) (Value.int (Nat.cast _) _)) _ _ _)
    k_dflt (refine mul_rep (vs := [Value.int _ _]) (by k_asm) (by k_asm) (by is_list) (by exact IntsAre.cons _ _ IntsAre.nil) (by omega) ?_; k_whole)
    intro D' ws' h' F' N' l1 hI'
    (try k_lt l1)
    (try k_sweep))
  revert ret hu hd T N X F B
  dsimp only [inner, turnFor, leadFor, lawS, lawB, lawF, bodyOf, scopeOf, PySem.Challenge.pw_xm0683_01, List.getLastD, List.getLast, List.drop, List.headD, List.take, List.cons_append, List.nil_append]
  k_fill
  intro B F X N T hd hu ret
  k_steps
  all_goals (
    (refine' ret _ _ _ _ _ _ _ _ _ _ _ _ _ _ _ _ _ _ _ ?F ?N ?s ?o ?a ?b ?c ?z ?i1 ?i2 ?i3 ?p1 ?p2 ?p3 ?p4 ?o1 ?o2 ?o3)
    case F => k_asm
    case a => exact rfl
    case b => exact rfl
    case c => exact rfl
    case N =>
      refine news_sub (by k_asm) ?_
      refine List.forall_mem_cons.mpr ⟨by k_mem, List.forall_mem_cons.mpr ⟨by k_mem, List.forall_mem_cons.mpr ⟨by k_mem, List.forall_mem_cons.mpr ⟨by k_mem, List.forall_mem_cons.mpr ⟨by k_mem, List.forall_mem_cons.mpr ⟨by k_mem, ?_⟩⟩⟩⟩⟩⟩
      intro p hp; repeat (first | exact hp | apply List.mem_cons_of_mem)
    case s => assumption
    case o => assumption
    case z => intro z z1 z2 z3; simp only [if_neg z1, if_neg z2, if_neg z3]
    case i1 => assumption
    case i2 => assumption
    case i3 => assumption
    case p1 => simp only [List.length_append, List.length_cons, List.length_nil, List.length_replicate]; omega
    case p2 => simp only [List.length_append, List.length_cons, List.length_nil, List.length_replicate]; omega
    case p3 => simp only [List.length_append, List.length_cons, List.length_nil, List.length_replicate]; omega
    case p4 => simp only [List.length_append, List.length_cons, List.length_nil, List.length_replicate]; omega
    case o1 => exact Octs.append (Octs.cons hx Octs.nil) (by assumption)
    case o2 => exact Octs.rep (by decide)
    case o3 => exact Octs.rep (by decide))

end

section
theorem whole_lawR (w : World) (mean : ExcName → Option Value) (mg mb : Str → Option Value) (news : List (Addr × Obj)) (b : Array UInt8) (tb ta : Tok) (n2 n1 n3 : List Int)
    (hb : KBw.bInts b = n2 ++ n1 ++ n3) (ho : Octs (n1 ++ n3)) (h1 : 0 < n1.length) (hl : (n2 ++ n1 ++ n3).length ≤ 16) :
    Con w mean mg mb 90 [.bytes b tb, .int (n2.length : Int) ta] news 2 16 (fun G q => (lawCode (n1 ++ n3) = none → ∀ h' tk', G h' news → q .none h' tk') ∧ (∀ c t h' tk', lawCode (n1 ++ n3) = some c → G h' news → q (.int c t) h' tk')) := by
  have e : wholeAt (n2 ++ n1 ++ n3) n2.length = lawCode (n1 ++ n3) := by
    rw [List.append_assoc]
    exact law_eq n2 (n1 ++ n3) ho (by rw [List.length_append]; omega)
  have := whole_at_con w mean mg mb news b tb ta (n2 ++ n1 ++ n3) n2.length hb hl (by simp only [List.length_append]; omega)
  rw [e] at this
  exact this
theorem whole_lawN (w : World) (mean : ExcName → Option Value) (mg mb : Str → Option Value) (news : List (Addr × Obj)) (b : Array UInt8) (tb ta : Tok) (n2 n1 n3 : List Int)
    (hb : KBw.bInts b = n2 ++ n1 ++ n3) (ho : Octs (n1 ++ n3)) (h1 : 0 < n1.length) (hl : (n2 ++ n1 ++ n3).length ≤ 16) (e : lawCode (n1 ++ n3) = none) :
    Con w mean mg mb 90 [.bytes b tb, .int (n2.length : Int) ta] news 2 16 (fun G q => ∀ h' tk', G h' news → q .none h' tk') := by
  intro dp un gd cn cs a ccd cl outer A₀ base h₀ L m s Q E B F X N T hk hd hu hret
  exact whole_lawR w mean mg mb news b tb ta n2 n1 n3 hb ho h1 hl dp un gd cn cs a ccd cl outer A₀ base h₀ L m s Q E B F X N T hk hd hu (And.intro (fun _ h' tk' g => hret h' tk' g) (fun c' t h' tk' n g => by rw [n] at e; cases e))
theorem whole_lawS (w : World) (mean : ExcName → Option Value) (mg mb : Str → Option Value) (news : List (Addr × Obj)) (b : Array UInt8) (tb ta : Tok) (n2 n1 n3 : List Int) (c : Int)
    (hb : KBw.bInts b = n2 ++ n1 ++ n3) (ho : Octs (n1 ++ n3)) (h1 : 0 < n1.length) (hl : (n2 ++ n1 ++ n3).length ≤ 16) (e : lawCode (n1 ++ n3) = some c) :
    Con w mean mg mb 90 [.bytes b tb, .int (n2.length : Int) ta] news 2 16 (fun G q => ∀ t h' tk', G h' news → q (.int c t) h' tk') := by
  intro dp un gd cn cs a ccd cl outer A₀ base h₀ L m s Q E B F X N T hk hd hu hret
  exact whole_lawR w mean mg mb news b tb ta n2 n1 n3 hb ho h1 hl dp un gd cn cs a ccd cl outer A₀ base h₀ L m s Q E B F X N T hk hd hu (And.intro (fun n => by rw [n] at e; cases e) (fun c' t h' tk' n g => by rw [n] at e; cases e; exact hret t h' tk' g))
theorem enc_lawC (w : World) (mean : ExcName → Option Value) (mg mb : Str → Option Value) (news : List (Addr × Obj)) (c : Int) (tc : Tok) {ns : List Int} (e : lawCode ns = some c) (ho : Octs ns) (hl : 0 < ns.length) :
    Con w mean mg mb 69 [.int c tc] news 2 16 (fun G q => ∀ b t h' tk', KBw.bInts b = ns.take (sizeOf' c).toNat → G h' news → q (.bytes b t) h' tk') := by
  obtain ⟨h0, h1, h2, _⟩ := enc_law ho hl e
  rw [h2]
  exact encoded_con w mean mg mb news c tc h0 h1
theorem size_lawC (w : World) (mean : ExcName → Option Value) (mg mb : Str → Option Value) (news : List (Addr × Obj)) (c : Int) (tc : Tok) {ns : List Int} (e : lawCode ns = some c) (ho : Octs ns) (hl : 0 < ns.length) :
    Con w mean mg mb 62 [.int c tc] news 1 8 (fun G q => ∀ z t h' tk', z = sizeOf' c → 0 ≤ z → G h' news → q (.int z t) h' tk') := by
  obtain ⟨h0, h1, _, _⟩ := enc_law ho hl e
  intro dp un gd cn cs a ccd cl outer A₀ base h₀ L m s Q E B F X N T hk hd hu hret
  refine size_of_code_con w mean mg mb news c tc (by omega) h1 dp un gd cn cs a ccd cl outer A₀ base h₀ L m s Q E B F X N T hk hd hu fun t h' tk' g => hret _ t h' tk' rfl ?_ g
  unfold sizeOf'
  (repeat' split) <;> decide
theorem bInts_inj {b c : Array UInt8} (h : KBw.bInts b = KBw.bInts c) : b = c := by
  have : ∀ (l r : List UInt8), (l.map fun c => (c.toNat : Int)) = (r.map fun c => (c.toNat : Int)) → l = r := by
    intro l
    induction l with
    | nil => intro r h; cases r with
      | nil => rfl
      | cons y r => cases h
    | cons x l ih => intro r h; cases r with
      | nil => cases h
      | cons y r =>
        simp only [List.map_cons, List.cons.injEq] at h
        rw [ih r h.2, UInt8.toNat.inj (Int.ofNat.inj h.1)]
  exact Array.toList_inj.mp (this _ _ h)
theorem ne_bytes_same {prog : Program} {w : World} {A : Around} {E : Value → Shared → Prop} {s : Shared} {b c : Array UInt8} {t u : Tok} {ks : List Int} {Q : Value → Shared → Prop} (h1 : KBw.bInts b = ks) (h2 : KBw.bInts c = ks) (h : Q (.bool false) s) :
    wpAny (model prog w) A (compareOp .NotEq (.bytes b t) (.bytes c u)) Q E s := by
  have e := bInts_inj (h1.trans h2.symm)
  subst e
  refine ne_bytes ?_
  rw [show (b.toList != b.toList) = false by simp]
  exact h
theorem ne_int_same {prog : Program} {w : World} {A : Around} {E : Value → Shared → Prop} {s : Shared} {c : Int} {t u : Tok} {Q : Value → Shared → Prop} (h : Q (.bool false) s) :
    wpAny (model prog w) A (compareOp .NotEq (.int c t) (.int c u)) Q E s := by
  refine ne_int ?_
  rw [show (c != c) = false by simp]
  exact h
theorem ld_skip {m : Str → Option Value} {x z : Str} {u v : Option Value} (hne : z ≠ x) (e : m z = v) : (fun y => if y = x then u else m y) z = v := by
  show (if z = x then u else m z) = v
  rw [if_neg hne]
  exact e

end

section
set_option maxRecDepth 100000 in
set_option maxHeartbeats 8000000 in
theorem tests_ok {w : World} {mean : ExcName → Option Value} {mg mb : Str → Option Value} {dp un : Nat} {gd : Option (List Code)} {cn : Str} {a : Addr} {ccd : Value} {outer : List Env} {A₀ : Around} {base h₀ : Heap} {L : Addr} {m : Str → Option Value} {s : Shared} {Q : Flow → Shared → Prop} {E : Value → Shared → Prop}
    {cS cO : Addr} {D1 D2 D3 : Addr} {ws1 ws2 ws3 : List Value} {n1 n2 n3 : Nat} {ns1 ns2 ns3 : List Int} {rest : List (Addr × Obj)}
    (B : Below A₀ base outer h₀) (F : Fr h₀ L s.heap m) (X : (Mine.hd.heap_39 w.params).In h₀) (N : News h₀ L s.heap ((D3, listOf ws3.toArray n3) :: (D2, listOf ws2.toArray n2) :: (D1, listOf ws1.toArray n1) :: rest))
    (T : Top Mine.hd.view_39 (looseW Mine.hd.view_39 [PySem.Str.ofString "RowsError", PySem.Str.ofString "LIMITS"]) mean mg mb h₀)
    (hd : dp + 8 < recursionLimit) (hu : un + 300 < cLine)
    (a1 : m (PySem.Str.ofString "row") = some (.ref D1)) (a2 : m (PySem.Str.ofString "ahead") = some (.ref D2)) (a3 : m (PySem.Str.ofString "behind") = some (.ref D3))
    (i1 : IntsAre ws1 ns1) (i2 : IntsAre ws2 ns2) (i3 : IntsAre ws3 ns3) (p1 : 0 < ns1.length) (p2 : ns1.length ≤ 4) (p3 : ns2.length ≤ 2) (p4 : ns3.length ≤ 1) (o1 : Octs ns1) (o2 : Octs ns2) (o3 : Octs ns3)
    (ret : ∀ (m' : Str → Option Value) (h' : Heap) (tk' : Nat), Fr h₀ L h' m' → News h₀ L h' rest → (∀ z, z ≠ PySem.Str.ofString "code" → m' z = m z) → Q .next { s with heap := h', toks := tk' }) :
    wpAny (model (PySem.W.OpenLaw.row PySem.Challenge.rw_xm0683_01).prog w) (ktrTop dp un gd cn lawS L a ccd (lawCells cS cO) outer) (execs (inner.drop 3) (envX cn lawS L a ccd (lawCells cS cO))) Q E s := by
  w_top off
  k_with_none
  k_with "UnrEnd" => ((first
    | (refine unrEnd_mid (pre := []) (by k_asm) (by k_asm) (by k_all) (by k_all) ?_; k_whole)
    | (refine unrEnd_mid (pre := [_]) (by k_asm) (by k_asm) (by k_all) (by k_all) ?_; k_whole)
    | (refine unrEnd_mid (pre := [_, _]) (by k_asm) (by k_asm) (by k_all) (by k_all) ?_; k_whole)
    | (refine unrEnd_mid (pre := [_, _, _]) (by k_asm) (by k_asm) (by k_all) (by k_all) ?_; k_whole)
    | (refine unrEnd_mid (pre := [_, _, _, _]) (by k_asm) (by k_asm) (by k_all) (by k_all) ?_; k_whole)); (try dsimp only [List.cons_append, List.nil_append]))
  k_with "mine.and" => (first | assumption | exact And.left (by assumption) | exact And.left (And.right (by assumption)) | exact And.right (by assumption) | exact And.left (And.right (And.right (by assumption))) | exact And.right (And.right (by assumption)) | exact And.left (And.right (And.right (And.right (by assumption)))) | exact And.right (And.right (And.right (by assumption))) | exact And.left (And.right (And.right (And.right (And.right (by assumption))))) | exact And.right (And.right (And.right (And.right (by assumption)))) | exact And.left (And.right (And.right (And.right (And.right (And.right (by assumption)))))) | exact And.right (And.right (And.right (And.right (And.right (by assumption))))) | exact And.left (And.right (And.right (And.right (And.right (And.right (And.right (by assumption))))))) | exact And.right (And.right (And.right (And.right (And.right (And.right (by assumption)))))) | exact And.left (And.right (And.right (And.right (And.right (And.right (And.right (And.right (by assumption)))))))) | exact And.right (And.right (And.right (And.right (And.right (And.right (And.right (by assumption))))))) | exact And.left (And.right (And.right (And.right (And.right (And.right (And.right (And.right (And.right (by assumption))))))))) | exact And.right (And.right (And.right (And.right (And.right (And.right (And.right (And.right (by assumption)))))))) | exact And.left (And.right (And.right (And.right (And.right (And.right (And.right (And.right (And.right (And.right (by assumption)))))))))) | exact And.right (And.right (And.right (And.right (And.right (And.right (And.right (And.right (And.right (by assumption))))))))) | exact And.left (And.right (And.right (And.right (And.right (And.right (And.right (And.right (And.right (And.right (And.right (by assumption))))))))))) | exact And.right (And.right (And.right (And.right (And.right (And.right (And.right (And.right (And.right (And.right (by assumption)))))))))) | exact And.left (And.right (And.right (And.right (And.right (And.right (And.right (And.right (And.right (And.right (And.right (And.right (by assumption)))))))))))) | exact And.right (And.right (And.right (And.right (And.right (And.right (And.right (And.right (And.right (And.right (And.right (by assumption))))))))))) | exact And.left (And.right (And.right (And.right (And.right (And.right (And.right (And.right (And.right (And.right (And.right (And.right (And.right (by assumption))))))))))))) | exact And.right (And.right (And.right (And.right (And.right (And.right (And.right (And.right (And.right (And.right (And.right (And.right (by assumption)))))))))))) | exact And.left (And.right (And.right (And.right (And.right (And.right (And.right (And.right (And.right (And.right (And.right (And.right (And.right (And.right (by assumption)))))))))))))) | exact And.right (And.right (And.right (And.right (And.right (And.right (And.right (And.right (And.right (And.right (And.right (And.right (And.right (by assumption))))))))))))) | exact And.left (And.right (And.right (And.right (And.right (And.right (And.right (And.right (And.right (And.right (And.right (And.right (And.right (And.right (And.right (by assumption))))))))))))))) | exact And.right (And.right (And.right (And.right (And.right (And.right (And.right (And.right (And.right (And.right (And.right (And.right (And.right (And.right (by assumption)))))))))))))) | exact And.left (And.right (And.right (And.right (And.right (And.right (And.right (And.right (And.right (And.right (And.right (And.right (And.right (And.right (And.right (And.right (by assumption)))))))))))))))) | exact And.right (And.right (And.right (And.right (And.right (And.right (And.right (And.right (And.right (And.right (And.right (And.right (And.right (And.right (And.right (by assumption))))))))))))))) | exact And.left (And.right (And.right (And.right (And.right (And.right (And.right (And.right (And.right (And.right (And.right (And.right (And.right (And.right (And.right (And.right (And.right (by assumption))))))))))))))))) | exact And.right (And.right (And.right (And.right (And.right (And.right (And.right (And.right (And.right (And.right (And.right (And.right (And.right (And.right (And.right (And.right (by assumption)))))))))))))))) | exact And.left (And.right (And.right (And.right (And.right (And.right (And.right (And.right (And.right (And.right (And.right (And.right (And.right (And.right (And.right (And.right (And.right (And.right (by assumption)))))))))))))))))) | exact And.right (And.right (And.right (And.right (And.right (And.right (And.right (And.right (And.right (And.right (And.right (And.right (And.right (And.right (And.right (And.right (And.right (by assumption))))))))))))))))))
  k_with "eval Name" => (k_here; (with_reducible show wpAny _ _ (eval (PySem.Expr.Name _ _) (envX _ _ _ _ _ _)) _ _ _); k_dflt (refine nameX_L (by k_asm) (by first | with_reducible assumption | exact ld_skip (by decide +kernel) (by with_reducible assumption)) ?_; k_whole))
  k_with "binaryOp Add ref ref" => (
    k_here
    (with_reducible show wpAny _ _ (binaryOp _ (Value.ref _) (Value.ref _)) _ _ _)
    k_dflt (refine kmk_add_ints (by k_asm) (by k_asm) (by kmk_list) (by kmk_list) (by assumption) (by assumption) ?_ (by (rw [PySem.sizeLine_eq]; simp only [List.length_append]; omega)))
    intro D' ws' h' F' N' l1 hI'
    (try k_lt l1)
    (try k_sweep))
  k_with "call builtin:len" => (k_here; (with_reducible show wpAny _ _ (call (Value.builtin _) [Value.ref _]) _ _ _); k_dflt (refine len_ints_fit (News.isList (by k_asm) (by k_mem)) (by with_reducible assumption) (by omega) ?_; k_whole))
  k_with "call type:bytes" => (
    k_here
    (with_reducible show wpAny _ _ (call (Value.type "bytes") [Value.ref _]) _ _ _)
    k_dflt (refine KBa.make_K (by k_asm) (by k_asm) (by rfl) (by kmk_list) (by assumption) (by (first | assumption | exact Octs.append (by assumption) (by assumption) | exact Octs.append (Octs.append (by assumption) (by assumption)) (by assumption) | exact Octs.take (Octs.append (by assumption) (by assumption)))) (by simp only [List.length_append, List.length_take]; omega) ?_)
    intro _ _ _ F' N' kbaIn)
  k_with "call ref" => (
    k_here
    (with_reducible show wpAny _ _ (call (Value.ref 125) [Value.ref _]) _ _ _)
    k_dflt (refine con_app (by k_asm) (by k_asm) (by k_asm) (by k_asm) (by k_asm) (by exact rfl) (by ktr_room) (by ktr_units) (code_con _ _ _ _ _ _ _ _ _ (by assumption) (by k_mem) (by (first | assumption | exact Octs.append (by assumption) (by assumption) | exact Octs.append (Octs.append (by assumption) (by assumption)) (by assumption) | exact Octs.take (Octs.append (by assumption) (by assumption)))) (by simp only [List.length_append]; omega) (by simp only [List.length_append]; omega)) ?_)
    (try dsimp only)
    refine' ⟨?_, ?_⟩
    all_goals (intros; (with_reducible rename Fr _ _ _ _ ∧ News _ _ _ _ => hFN'); (obtain ⟨F', N'⟩ := hFN'); (try k_fold); (try k_sweep)))
  k_with "call ref" => (
    k_here
    (with_reducible show wpAny _ _ (call (Value.ref 90) [Value.bytes _ _, Value.int _ _]) _ _ _)
    k_dflt (first
      | (refine con_app (by k_asm) (by k_asm) (by k_asm) (by k_asm) (by k_asm) (by exact rfl) (by ktr_room) (by ktr_units) (whole_lawN _ _ _ _ _ _ _ _ _ _ _ (by exact KBa.ints_make (by assumption)) (by (first | assumption | exact Octs.append (by assumption) (by assumption) | exact Octs.append (Octs.append (by assumption) (by assumption)) (by assumption) | exact Octs.take (Octs.append (by assumption) (by assumption)))) (by omega) (by simp only [List.length_append]; omega) (by with_reducible assumption)) ?_)
      | (refine con_app (by k_asm) (by k_asm) (by k_asm) (by k_asm) (by k_asm) (by exact rfl) (by ktr_room) (by ktr_units) (whole_lawS _ _ _ _ _ _ _ _ _ _ _ _ (by exact KBa.ints_make (by assumption)) (by (first | assumption | exact Octs.append (by assumption) (by assumption) | exact Octs.append (Octs.append (by assumption) (by assumption)) (by assumption) | exact Octs.take (Octs.append (by assumption) (by assumption)))) (by omega) (by simp only [List.length_append]; omega) (by with_reducible assumption)) ?_))
    (try dsimp only)
    intros
    (with_reducible rename Fr _ _ _ _ ∧ News _ _ _ _ => hFN')
    (obtain ⟨F', N'⟩ := hFN')
    (try k_fold)
    (try k_sweep))
  k_with "call ref" => (
    k_here
    (with_reducible show wpAny _ _ (call (Value.ref 69) [Value.int _ _]) _ _ _)
    k_dflt (refine con_app (by k_asm) (by k_asm) (by k_asm) (by k_asm) (by k_asm) (by exact rfl) (by ktr_room) (by ktr_units) (enc_lawC _ _ _ _ _ _ _ (by with_reducible assumption) (by (first | assumption | exact Octs.append (by assumption) (by assumption) | exact Octs.append (Octs.append (by assumption) (by assumption)) (by assumption) | exact Octs.take (Octs.append (by assumption) (by assumption)))) (by simp only [List.length_append]; omega)) ?_)
    (try dsimp only)
    intro b' t' h' tk' hB' hFN'
    (obtain ⟨F', N'⟩ := hFN')
    (try k_fold)
    (try k_sweep))
  k_with "call ref" => (
    k_here
    (with_reducible show wpAny _ _ (call (Value.ref 62) [Value.int _ _]) _ _ _)
    k_dflt (refine con_app (by k_asm) (by k_asm) (by k_asm) (by k_asm) (by k_asm) (by exact rfl) (by ktr_room) (by ktr_units) (size_lawC _ _ _ _ _ _ _ (by with_reducible assumption) (by (first | assumption | exact Octs.append (by assumption) (by assumption) | exact Octs.append (Octs.append (by assumption) (by assumption)) (by assumption) | exact Octs.take (Octs.append (by assumption) (by assumption)))) (by simp only [List.length_append]; omega)) ?_)
    (try dsimp only)
    intro z' t' h' tk' hZ' hZ2' hFN'
    subst hZ'
    (obtain ⟨F', N'⟩ := hFN')
    (try k_fold)
    (try k_sweep))
  k_with "compareOp NotEq bytes bytes" => (k_here; refine ne_bytes_same (by assumption) (KBa.ints_make (by assumption)) ?_)
  k_with "compareOp NotEq int int" => (k_here; with_reducible refine ne_int_same ?_)
  k_with "subscriptTail Name Slice ref ref" => (
    k_here
    (with_reducible show wpAny _ _ (subscriptTail _ (PySem.Expr.Slice _ _ none _) (Value.ref _) (Value.ref _)) _ _ _)
    k_dflt (refine kmk_slice_ints (s := ⟨_, _, _, _, _⟩) (by k_asm) (by k_asm) (by kmk_list) (by kmk_part) (by kmk_part) (by assumption) (by exact kmk_upto (by assumption) (by assumption)) (by exact rfl) ?_ (by with_unfolding_all rfl) (by kmk_pure) (by exact kmk_sz (by assumption) (by rw [PySem.sizeLine_eq]; simp only [List.length_append]; omega)))
    intro D' ws' h' F' N' l1 hI' hC' hL'
    (try k_lt l1)
    (try k_sweep))
  revert ret hu hd T N X F B
  dsimp only [inner, turnFor, leadFor, lawS, lawB, lawF, bodyOf, scopeOf, PySem.Challenge.pw_xm0683_01, List.getLastD, List.getLast, List.drop, List.headD, List.take, List.cons_append, List.nil_append]
  k_fill
  intro B F X N T hd hu ret
  k_steps
  all_goals (
    (refine' ret _ _ _ ?F ?N ?z)
    case F => k_asm
    case N =>
      refine news_sub (by k_asm) ?_
      intro p hp; repeat (first | exact hp | apply List.mem_cons_of_mem)
    case z => intro z z1; simp only [if_neg z1])

end

section
def iterOf : Stmt → PySem.Expr
  | .For _ it _ _ _ => it
  | _ => .Constant .none 0 ⟨0, 0, 0, 0⟩
theorem turnFor_eq : ∃ px pos, turnFor = .For (.Name (PySem.Str.ofString "turn") px) (iterOf turnFor) inner [] pos := ⟨_, _, rfl⟩
theorem leadFor_eq : ∃ px pos, leadFor = .For (.Name (PySem.Str.ofString "lead") px) (iterOf leadFor) [turnFor] [] pos := ⟨_, _, rfl⟩
section
variable {w : World} {mean : ExcName → Option Value} {mg mb : Str → Option Value} {dp un : Nat} {gd : Option (List Code)} {cn : Str} {a : Addr} {ccd : Value} {outer : List Env} {A₀ : Around} {base h₀ : Heap} {L : Addr} {m : Str → Option Value} {s : Shared} {Q : Flow → Shared → Prop} {E : Value → Shared → Prop}
variable {cS cO src : Addr} {oO oS : Obj} {vO : Option Value} {rest : List (Addr × Obj)} {vs : List Value} {n : Nat} {x : Int} {tx : Tok}
theorem body_ok (B : Below A₀ base outer h₀) (F : Fr h₀ L s.heap m) (X : (Mine.hd.heap_39 w.params).In h₀) (N : News h₀ L s.heap ((src, listOf vs.toArray n) :: (cO, oO) :: (cS, oS) :: rest))
    (T : Top Mine.hd.view_39 (looseW Mine.hd.view_39 [PySem.Str.ofString "RowsError", PySem.Str.ofString "LIMITS"]) mean mg mb h₀)
    (hd : dp + 8 < recursionLimit) (hu : un + 300 < cLine) (e1 : @Ne Nat src cO) (e2 : @Ne Nat src cS) (e3 : @Ne Nat cO cS) (r1 : ∀ p ∈ rest, p.1 ≠ src) (r2 : ∀ p ∈ rest, p.1 ≠ cO)
    (hO : oO.data = .cell vO) (hS : oS.data = .cell (some (.ref src))) (hi : SrcOk vs) (hm : m (PySem.Str.ofString "lead") = some (.int x tx)) (hx : 0 ≤ x ∧ x < 256)
    (ret : ∀ (vs' : List Value) (n' : Nat) (oO' : Obj) (v' : Value) (m' : Str → Option Value) (h' : Heap) (tk' : Nat),
      Fr h₀ L h' m' → News h₀ L h' ((src, listOf vs'.toArray n') :: (cO, oO') :: (cS, oS) :: rest) → SrcOk vs' → oO'.data = .cell (some v') →
      (∀ z, z ≠ PySem.Str.ofString "row" → z ≠ PySem.Str.ofString "ahead" → z ≠ PySem.Str.ofString "behind" → z ≠ PySem.Str.ofString "code" → m' z = m z) → Q .next { s with heap := h', toks := tk' }) :
    wpAny (model (PySem.W.OpenLaw.row PySem.Challenge.rw_xm0683_01).prog w) (ktrTop dp un gd cn lawS L a ccd (lawCells cS cO) outer) (execs inner (envX cn lawS L a ccd (lawCells cS cO))) Q E s := by
  have e : inner = inner.take 3 ++ inner.drop 3 := (List.take_append_drop 3 inner).symm
  rw [e]
  with_reducible refine rows_ok (more := inner.drop 3) B F X N T hd hu e1 e2 e3 r1 r2 hO hS hi hm hx ?_
  intro D1 D2 D3 ws1 ws2 ws3 n1 n2 n3 ns1 ns2 ns3 vs' n' oO' v' m' h' tk' F' N' hs' hO' a1 a2 a3 hz i1 i2 i3 p1 p2 p3 p4 o1 o2 o3
  with_reducible refine tests_ok B F' X N' T hd hu a1 a2 a3 i1 i2 i3 p1 p2 p3 p4 o1 o2 o3 ?_
  intro m'' h'' tk'' F'' N'' hz'
  exact ret vs' n' oO' v' m'' h'' tk'' F'' N'' hs' hO' fun z z1 z2 z3 z4 => (hz' z z4).trans (hz z z1 z2 z3)
end
set_option maxRecDepth 100000 in
set_option maxHeartbeats 8000000 in
theorem range3_ok {w : World} {mean : ExcName → Option Value} {mg mb : Str → Option Value} {dp un : Nat} {gd : Option (List Code)} {cn : Str} {a : Addr} {ccd : Value} {outer : List Env} {A₀ : Around} {base h₀ : Heap} {L : Addr} {m : Str → Option Value} {s : Shared} {Q E : Value → Shared → Prop} {cl : List (Str × Addr)} {news : List (Addr × Obj)}
    (B : Below A₀ base outer h₀) (F : Fr h₀ L s.heap m) (X : (Mine.hd.heap_39 w.params).In h₀) (N : News h₀ L s.heap news)
    (T : Top Mine.hd.view_39 (looseW Mine.hd.view_39 [PySem.Str.ofString "RowsError", PySem.Str.ofString "LIMITS"]) mean mg mb h₀)
    (hd : dp + 8 < recursionLimit) (hu : un + 300 < cLine)
    (ret : ∀ (r : Addr) (t u v : Tok) (h' : Heap) (tk' : Nat), IsRange h' r 0 3 1 t u v → Fr h₀ L h' m → News h₀ L h' news → Q (.ref r) { s with heap := h', toks := tk' }) :
    wpAny (model (PySem.W.OpenLaw.row PySem.Challenge.rw_xm0683_01).prog w) (ktrTop dp un gd cn lawS L a ccd cl outer) (eval (iterOf turnFor) (envX cn lawS L a ccd cl)) Q E s := by
  revert ret hu hd T N X F B
  dsimp only [iterOf, inner, turnFor, leadFor, lawS, lawB, lawF, bodyOf, scopeOf, PySem.Challenge.pw_xm0683_01, List.getLastD, List.getLast, List.drop, List.headD]
  k_fill
  intro B F X N T hd hu ret
  k_steps
  all_goals exact ret _ _ _ _ _ _ (by assumption) (by assumption) (by assumption)

end

section
abbrev LedC (src cO cS : Addr) (oS : Obj) (rest : List (Addr × Obj)) (c : List Value × Nat × Obj) : List (Addr × Obj) := (src, listOf c.1.toArray c.2.1) :: (cO, c.2.2) :: (cS, oS) :: rest
def FactC (c : List Value × Nat × Obj) : Prop := SrcOk c.1 ∧ ∃ v, c.2.2.data = .cell v
abbrev bodyNames : List Str := [PySem.Str.ofString "row", PySem.Str.ofString "ahead", PySem.Str.ofString "behind", PySem.Str.ofString "code"]
abbrev turnNames : List Str := [PySem.Str.ofString "turn", PySem.Str.ofString "row", PySem.Str.ofString "ahead", PySem.Str.ofString "behind", PySem.Str.ofString "code"]
theorem not_names {z : Str} {l : List Str} (h : l.contains z = false) {y : Str} (hy : y ∈ l) : z ≠ y := fun e => by
  subst e
  rw [List.contains_iff_mem.mpr hy] at h
  cases h
theorem lead_kept {u m₀ : Str → Option Value} {v v' : Value} (h : m₀ (PySem.Str.ofString "lead") = some v) :
    (fun y => if y = PySem.Str.ofString "turn" then some v' else kstB (fun z => if bodyNames.contains z then u z else m₀ z) [] y) (PySem.Str.ofString "lead") = some v := by
  show (if PySem.Str.ofString "lead" = PySem.Str.ofString "turn" then some v' else (if bodyNames.contains (PySem.Str.ofString "lead") = true then u (PySem.Str.ofString "lead") else m₀ (PySem.Str.ofString "lead"))) = some v
  rw [if_neg (by decide +kernel), if_neg (by decide +kernel)]
  exact h
section
variable {w : World} {mean : ExcName → Option Value} {mg mb : Str → Option Value} {dp un : Nat} {gd : Option (List Code)} {cn : Str} {a : Addr} {ccd : Value} {outer : List Env} {A₀ : Around} {base h₀ : Heap} {L : Addr} {m : Str → Option Value} {s : Shared} {Q : Flow → Shared → Prop} {E : Value → Shared → Prop}
variable {cS cO src : Addr} {oO oS : Obj} {vO : Option Value} {rest : List (Addr × Obj)} {vs : List Value} {n : Nat} {x : Int} {tx : Tok}
theorem turn_ok (B : Below A₀ base outer h₀) (F : Fr h₀ L s.heap m) (X : (Mine.hd.heap_39 w.params).In h₀) (N : News h₀ L s.heap ((src, listOf vs.toArray n) :: (cO, oO) :: (cS, oS) :: rest))
    (T : Top Mine.hd.view_39 (looseW Mine.hd.view_39 [PySem.Str.ofString "RowsError", PySem.Str.ofString "LIMITS"]) mean mg mb h₀)
    (hd : dp + 8 < recursionLimit) (hu : un + 300 < cLine) (e1 : @Ne Nat src cO) (e2 : @Ne Nat src cS) (e3 : @Ne Nat cO cS) (r1 : ∀ p ∈ rest, p.1 ≠ src) (r2 : ∀ p ∈ rest, p.1 ≠ cO)
    (hO : oO.data = .cell vO) (hS : oS.data = .cell (some (.ref src))) (hi : SrcOk vs) (hm : m (PySem.Str.ofString "lead") = some (.int x tx)) (hx : 0 ≤ x ∧ x < 256)
    (hE : PassesOwn (model (PySem.W.OpenLaw.row PySem.Challenge.rw_xm0683_01).prog w) (ktrTop dp un gd cn lawS L a ccd (lawCells cS cO) outer) (envX cn lawS L a ccd (lawCells cS cO)) E)
    (ret : ∀ (c : List Value × Nat × Obj) (m' : Str → Option Value) (h' : Heap) (tk' : Nat),
      Fr h₀ L h' m' → News h₀ L h' (LedC src cO cS oS rest c) → FactC c → (∀ z, turnNames.contains z = false → m' z = m z) → Q .next { s with heap := h', toks := tk' }) :
    wpAny (model (PySem.W.OpenLaw.row PySem.Challenge.rw_xm0683_01).prog w) (ktrTop dp un gd cn lawS L a ccd (lawCells cS cO) outer) (exec turnFor (envX cn lawS L a ccd (lawCells cS cO))) Q E s := by
  obtain ⟨px, pos, e⟩ := turnFor_eq
  rw [e]
  with_reducible refine For_invVF (m := m) F (by k_dflt rfl) (by k_dflt rfl) ?_ (by k_dflt (exact fun _ => rfl)) hE
  with_reducible refine range3_ok B F X N T hd hu ?_
  intro r t u v h' tk' hr F' N'
  have hf0 : FactC (vs, n, oO) := ⟨hi, vO, hO⟩
  have hk0 : ∀ p ∈ (fun _ => [] : List Value × Nat × Obj → List (Str × Value)) (vs, n, oO), m p.1 = some p.2 := fun _ h => nomatch h
  with_reducible refine kst_range (n := 3) (LedC src cO cS oS rest) (fun _ => []) FactC bodyNames (fun _ _ => True) (vs, n, oO) (by k_dflt rfl) hr (by k_dflt decide) (by k_dflt decide) F' N' hf0 hk0 True.intro ?_ ?_
  · intro c pre k t' u' h'' tk'' own hk hlt hoff hf _ F'' N''
    obtain ⟨hs', v', hc⟩ := hf
    have N3 : News h₀ L h'' ((src, listOf c.1.toArray c.2.1) :: (cO, c.2.2) :: (cS, oS) :: (rest ++ own)) := N''
    with_reducible refine body_ok (rest := rest ++ own) (s := { s with heap := h'', toks := tk'' }) B F'' X N3 T hd hu e1 e2 e3 (fun p hp => (List.mem_append.mp hp).elim (r1 p) (hoff.ne (by simp) p)) (fun p hp => (List.mem_append.mp hp).elim (r2 p) (hoff.ne (by simp) p)) hc hS hs' (lead_kept hm) hx ?_
    intro vs₂ n₂ oO₂ v₂ m₂ h₂ tk₂ F₂ N₂ hs₂ hO₂ hz₂
    show InvEndN _ _ _ _ _ _ _
    refine kst_end (s₁ := { s with heap := h'', toks := tk'' }) (vs₂, n₂, oO₂) F₂ N₂ (fun p hp => ?_) (fun p hp => ?_) rfl ⟨hs₂, _, hO₂⟩ (fun _ h => nomatch h) (fun z hz _ hst => ?_) True.intro
    · exact List.mem_append_left own hp
    · exact .tail _ (.tail _ (.tail _ (List.mem_append_right _ hp)))
    · have e4 := hz₂ z (not_names hst (by simp)) (not_names hst (by simp)) (not_names hst (by simp)) (not_names hst (by simp))
      rw [e4]
      show (if z = _ then _ else (if bodyNames.contains z = true then u' z else m z)) = m z
      rw [if_neg hz, if_neg (by rw [hst]; decide)]
  · intro c u' h'' tk'' hf _ F'' N''
    refine ret c _ h'' tk'' F'' N'' hf fun z hz => ?_
    show (if z = _ then _ else (if bodyNames.contains z = true then u' z else m z)) = m z
    rw [if_neg (not_names hz (by simp)), if_neg]
    intro hc
    have hc' : z ∈ bodyNames := List.contains_iff_mem.mp hc
    exact not_names hz (List.mem_cons_of_mem _ hc') rfl
end

end

section
def leadsL : List Int := [0, 127, 128, 191, 192, 193, 194, 223, 224, 225, 236, 237, 238, 239, 240, 241, 243, 244, 245]
set_option maxRecDepth 100000 in
set_option maxHeartbeats 8000000 in
theorem leads_eval {w : World} {mean : ExcName → Option Value} {mg mb : Str → Option Value} {dp un : Nat} {gd : Option (List Code)} {cn : Str} {a : Addr} {ccd : Value} {outer : List Env} {A₀ : Around} {base h₀ : Heap} {L : Addr} {m : Str → Option Value} {s : Shared} {Q E : Value → Shared → Prop} {cl : List (Str × Addr)} {news : List (Addr × Obj)}
    (B : Below A₀ base outer h₀) (F : Fr h₀ L s.heap m) (X : (Mine.hd.heap_39 w.params).In h₀) (N : News h₀ L s.heap news)
    (T : Top Mine.hd.view_39 (looseW Mine.hd.view_39 [PySem.Str.ofString "RowsError", PySem.Str.ofString "LIMITS"]) mean mg mb h₀)
    (hd : dp + 8 < recursionLimit) (hu : un + 300 < cLine)
    (ret : ∀ (D : Addr) (vs : List Value) (n : Nat) (h' : Heap) (tk' : Nat), IntsAre vs leadsL → Fr h₀ L h' m → News h₀ L h' ((D, listOf vs.toArray n) :: news) → AllLt D news → Q (.ref D) { s with heap := h', toks := tk' }) :
    wpAny (model (PySem.W.OpenLaw.row PySem.Challenge.rw_xm0683_01).prog w) (ktrTop dp un gd cn lawS L a ccd cl outer) (eval (iterOf leadFor) (envX cn lawS L a ccd cl)) Q E s := by
  w_top off
  k_with_none
  k_with "UnrEnd" => ((first
    | (refine unrEnd_mid (pre := []) (by k_asm) (by k_asm) (by k_all) (by k_all) ?_; k_whole)
    | (refine unrEnd_mid (pre := [_]) (by k_asm) (by k_asm) (by k_all) (by k_all) ?_; k_whole)
    | (refine unrEnd_mid (pre := [_, _]) (by k_asm) (by k_asm) (by k_all) (by k_all) ?_; k_whole)
    | (refine unrEnd_mid (pre := [_, _, _]) (by k_asm) (by k_asm) (by k_all) (by k_all) ?_; k_whole)
    | (refine unrEnd_mid (pre := [_, _, _, _]) (by k_asm) (by k_asm) (by k_all) (by k_all) ?_; k_whole)); (try dsimp only [List.cons_append, List.nil_append]))
  k_with "mine.and" => (first | assumption | exact And.left (by assumption) | exact And.left (And.right (by assumption)) | exact And.right (by assumption) | exact And.left (And.right (And.right (by assumption))) | exact And.right (And.right (by assumption)) | exact And.left (And.right (And.right (And.right (by assumption)))) | exact And.right (And.right (And.right (by assumption))) | exact And.left (And.right (And.right (And.right (And.right (by assumption))))) | exact And.right (And.right (And.right (And.right (by assumption)))) | exact And.left (And.right (And.right (And.right (And.right (And.right (by assumption)))))) | exact And.right (And.right (And.right (And.right (And.right (by assumption))))) | exact And.left (And.right (And.right (And.right (And.right (And.right (And.right (by assumption))))))) | exact And.right (And.right (And.right (And.right (And.right (And.right (by assumption)))))) | exact And.left (And.right (And.right (And.right (And.right (And.right (And.right (And.right (by assumption)))))))) | exact And.right (And.right (And.right (And.right (And.right (And.right (And.right (by assumption))))))) | exact And.left (And.right (And.right (And.right (And.right (And.right (And.right (And.right (And.right (by assumption))))))))) | exact And.right (And.right (And.right (And.right (And.right (And.right (And.right (And.right (by assumption)))))))) | exact And.left (And.right (And.right (And.right (And.right (And.right (And.right (And.right (And.right (And.right (by assumption)))))))))) | exact And.right (And.right (And.right (And.right (And.right (And.right (And.right (And.right (And.right (by assumption))))))))) | exact And.left (And.right (And.right (And.right (And.right (And.right (And.right (And.right (And.right (And.right (And.right (by assumption))))))))))) | exact And.right (And.right (And.right (And.right (And.right (And.right (And.right (And.right (And.right (And.right (by assumption)))))))))) | exact And.left (And.right (And.right (And.right (And.right (And.right (And.right (And.right (And.right (And.right (And.right (And.right (by assumption)))))))))))) | exact And.right (And.right (And.right (And.right (And.right (And.right (And.right (And.right (And.right (And.right (And.right (by assumption))))))))))) | exact And.left (And.right (And.right (And.right (And.right (And.right (And.right (And.right (And.right (And.right (And.right (And.right (And.right (by assumption))))))))))))) | exact And.right (And.right (And.right (And.right (And.right (And.right (And.right (And.right (And.right (And.right (And.right (And.right (by assumption)))))))))))) | exact And.left (And.right (And.right (And.right (And.right (And.right (And.right (And.right (And.right (And.right (And.right (And.right (And.right (And.right (by assumption)))))))))))))) | exact And.right (And.right (And.right (And.right (And.right (And.right (And.right (And.right (And.right (And.right (And.right (And.right (And.right (by assumption))))))))))))) | exact And.left (And.right (And.right (And.right (And.right (And.right (And.right (And.right (And.right (And.right (And.right (And.right (And.right (And.right (And.right (by assumption))))))))))))))) | exact And.right (And.right (And.right (And.right (And.right (And.right (And.right (And.right (And.right (And.right (And.right (And.right (And.right (And.right (by assumption)))))))))))))) | exact And.left (And.right (And.right (And.right (And.right (And.right (And.right (And.right (And.right (And.right (And.right (And.right (And.right (And.right (And.right (And.right (by assumption)))))))))))))))) | exact And.right (And.right (And.right (And.right (And.right (And.right (And.right (And.right (And.right (And.right (And.right (And.right (And.right (And.right (And.right (by assumption))))))))))))))) | exact And.left (And.right (And.right (And.right (And.right (And.right (And.right (And.right (And.right (And.right (And.right (And.right (And.right (And.right (And.right (And.right (And.right (by assumption))))))))))))))))) | exact And.right (And.right (And.right (And.right (And.right (And.right (And.right (And.right (And.right (And.right (And.right (And.right (And.right (And.right (And.right (And.right (by assumption)))))))))))))))) | exact And.left (And.right (And.right (And.right (And.right (And.right (And.right (And.right (And.right (And.right (And.right (And.right (And.right (And.right (And.right (And.right (And.right (And.right (by assumption)))))))))))))))))) | exact And.right (And.right (And.right (And.right (And.right (And.right (And.right (And.right (And.right (And.right (And.right (And.right (And.right (And.right (And.right (And.right (And.right (by assumption))))))))))))))))))
  revert ret hu hd T N X F B
  dsimp only [iterOf, inner, turnFor, leadFor, lawS, lawB, lawF, bodyOf, scopeOf, PySem.Challenge.pw_xm0683_01, List.getLastD, List.getLast, List.drop, List.headD]
  k_fill
  intro B F X N T hd hu ret
  k_steps
  all_goals (
    (refine' ret _ [_, _, _, _, _, _, _, _, _, _, _, _, _, _, _, _, _, _, _] _ _ _ ?i ?f ?n ?l)
    case n => k_asm
    case f => k_asm
    case l => exact allLt_of (by assumption)
    case i => repeat constructor)

end

section
section
variable {w : World} {mean : ExcName → Option Value} {mg mb : Str → Option Value} {dp un : Nat} {gd : Option (List Code)} {cn : Str} {a : Addr} {ccd : Value} {outer : List Env} {A₀ : Around} {base h₀ : Heap} {L : Addr} {m : Str → Option Value} {s : Shared} {Q : Flow → Shared → Prop} {E : Value → Shared → Prop}
variable {cS cO src : Addr} {oO oS : Obj} {vO : Option Value} {rest : List (Addr × Obj)} {vs : List Value} {n : Nat}
theorem allLt_mem {d : Addr} : ∀ {l : List (Addr × Obj)}, AllLt d l → ∀ p ∈ l, @LT.lt Nat _ p.1 d
  | [], _, _, hp => (nomatch hp)
  | q :: r, h, p, hp => by
    rcases List.mem_cons.mp hp with rfl | hp
    · exact h.1
    · exact allLt_mem h.2 p hp
theorem leads_ok (B : Below A₀ base outer h₀) (F : Fr h₀ L s.heap m) (X : (Mine.hd.heap_39 w.params).In h₀) (N : News h₀ L s.heap [(src, listOf vs.toArray n), (cO, oO), (cS, oS)])
    (T : Top Mine.hd.view_39 (looseW Mine.hd.view_39 [PySem.Str.ofString "RowsError", PySem.Str.ofString "LIMITS"]) mean mg mb h₀)
    (hd : dp + 8 < recursionLimit) (hu : un + 300 < cLine) (e1 : @Ne Nat src cO) (e2 : @Ne Nat src cS) (e3 : @Ne Nat cO cS)
    (hO : oO.data = .cell vO) (hS : oS.data = .cell (some (.ref src))) (hi : SrcOk vs)
    (hE : PassesOwn (model (PySem.W.OpenLaw.row PySem.Challenge.rw_xm0683_01).prog w) (ktrTop dp un gd cn lawS L a ccd (lawCells cS cO) outer) (envX cn lawS L a ccd (lawCells cS cO)) E)
    (ret : ∀ (m' : Str → Option Value) (h' : Heap) (tk' : Nat), Fr h₀ L h' m' → News h₀ L h' [] → Q .next { s with heap := h', toks := tk' }) :
    wpAny (model (PySem.W.OpenLaw.row PySem.Challenge.rw_xm0683_01).prog w) (ktrTop dp un gd cn lawS L a ccd (lawCells cS cO) outer) (exec leadFor (envX cn lawS L a ccd (lawCells cS cO))) Q E s := by
  obtain ⟨px, pos, e⟩ := leadFor_eq
  rw [e]
  with_reducible refine For_invVF (m := m) F (by k_dflt rfl) (by k_dflt rfl) ?_ (by k_dflt (exact fun _ => rfl)) hE
  with_reducible refine leads_eval B F X N T hd hu ?_
  intro D us k h' tk' hI F' N' l1
  have d1 := allLt_mem l1
  have n1 : @Ne Nat D src := Nat.ne_of_gt (d1 _ (.head _))
  have n2 : @Ne Nat D cO := Nat.ne_of_gt (d1 _ (.tail _ (.head _)))
  have hf0 : FactC (vs, n, oO) := ⟨hi, vO, hO⟩
  have hk0 : ∀ p ∈ (fun _ => [] : List Value × Nat × Obj → List (Str × Value)) (vs, n, oO), m p.1 = some p.2 := fun _ h => nomatch h
  have N2 : News h₀ L h' (LedC src cO cS oS [(D, listOf us.toArray k)] (vs, n, oO)) := fun p hp => N' p (by
    simp only [List.mem_cons, List.not_mem_nil, or_false] at hp ⊢
    rcases hp with h | h | h | h <;> simp only [h, true_or, or_true])
  have hmem : ∀ c : List Value × Nat × Obj, (D, listOf us.toArray k) ∈ LedC src cO cS oS [(D, listOf us.toArray k)] c := fun c => .tail _ (.tail _ (.tail _ (.head _)))
  with_reducible refine kst_listL (LedC src cO cS oS [(D, listOf us.toArray k)]) (fun _ => []) FactC turnNames (fun _ _ => True) (vs, n, oO) (by k_dflt rfl) hmem hI F' N2 hf0 hk0 True.intro ?_ ?_
  · intro c pre post x t' u' h'' tk'' own _ hx hoff hf _ F'' N''
    obtain ⟨hs', v', hc⟩ := hf
    have N3 : News h₀ L h'' ((src, listOf c.1.toArray c.2.1) :: (cO, c.2.2) :: (cS, oS) :: ((D, listOf us.toArray k) :: own)) := N''
    have hx' : 0 ≤ x ∧ x < 256 := by
      have : ∀ y ∈ leadsL, 0 ≤ y ∧ y < 256 := by decide
      exact this x hx
    refine wpAny_execs_cons ?_
    with_reducible refine turn_ok (rest := (D, listOf us.toArray k) :: own) (s := { s with heap := h'', toks := tk'' }) B F'' X N3 T hd hu e1 e2 e3 (List.forall_mem_cons.mpr ⟨n1, hoff.ne (by simp)⟩) (List.forall_mem_cons.mpr ⟨n2, hoff.ne (by simp)⟩) hc hS hs' (by k_dflt rfl) hx' hE ?_
    intro c₂ m₂ h₂ tk₂ F₂ N₂ hf₂ hz₂
    refine wpAny_execs_nil ?_
    show InvEndN _ _ _ _ _ _ _
    refine kst_end (s₁ := { s with heap := h'', toks := tk'' }) c₂ F₂ N₂ (fun p hp => ?_) (fun p hp => ?_) rfl hf₂ (fun _ h => nomatch h) (fun z hz _ hst => ?_) True.intro
    · exact List.mem_append_left own hp
    · exact .tail _ (.tail _ (.tail _ (.tail _ hp)))
    · rw [hz₂ z hst]
      show (if z = _ then _ else (if turnNames.contains z = true then u' z else m z)) = m z
      rw [if_neg hz, if_neg (by rw [hst]; decide)]
  · intro c u' h'' tk'' hf _ F'' N''
    exact ret _ h'' tk'' F'' fun p hp => nomatch hp
end
theorem leads_use {w : World} {mean : ExcName → Option Value} {mg mb : Str → Option Value} {dp un : Nat} {gd : Option (List Code)} {cn : Str} {a : Addr} {ccd : Value} {outer : List Env} {A₀ : Around} {base h₀ : Heap} {L : Addr} {m : Str → Option Value} {s : Shared} {Q : Flow → Shared → Prop} {E : Value → Shared → Prop}
    {cS cO src : Addr} {oO oS : Obj} {vO : Option Value} {vs : List Value} {n : Nat} {st : Stmt} {env : Env} {A : Around}
    (hst : st = leadFor) (henv : env = envX cn lawS L a ccd (lawCells cS cO)) (hA : A = ktrTop dp un gd cn lawS L a ccd (lawCells cS cO) outer)
    (hS : oS.data = .cell (some (.ref src))) (B : Below A₀ base outer h₀) (F : Fr h₀ L s.heap m) (X : (Mine.hd.heap_39 w.params).In h₀) (N : News h₀ L s.heap [(src, listOf vs.toArray n), (cO, oO), (cS, oS)])
    (T : Top Mine.hd.view_39 (looseW Mine.hd.view_39 [PySem.Str.ofString "RowsError", PySem.Str.ofString "LIMITS"]) mean mg mb h₀)
    (hd : dp + 8 < recursionLimit) (hu : un + 300 < cLine) (e1 : @Ne Nat src cO) (e2 : @Ne Nat src cS) (e3 : @Ne Nat cO cS)
    (hO : oO.data = .cell vO) (hi : SrcOk vs) (hE : PassesOwn (model (PySem.W.OpenLaw.row PySem.Challenge.rw_xm0683_01).prog w) A env E)
    (ret : ∀ (m' : Str → Option Value) (h' : Heap) (tk' : Nat), Fr h₀ L h' m' → News h₀ L h' [] → Q .next { s with heap := h', toks := tk' }) :
    wpAny (model (PySem.W.OpenLaw.row PySem.Challenge.rw_xm0683_01).prog w) A (exec st env) Q E s := by
  subst hst henv hA
  with_reducible exact leads_ok B F X N T hd hu e1 e2 e3 hO hS hi hE ret

end

section
set_option maxRecDepth 100000 in
set_option maxHeartbeats 8000000 in
theorem tail_ok {w : World} {mean : ExcName → Option Value} {mg mb : Str → Option Value} {dp un : Nat} {gd : Option (List Code)} {cn : Str} {a : Addr} {ccd : Value} {A₀ : Around} {base h₀ : Heap} {L : Addr} {m : Str → Option Value} {s : Shared} {Q : Flow → Shared → Prop} {E : Value → Shared → Prop}
    {cS cO l : Addr} {oO oS : Obj} {vO vS : Option Value} {us : List Value} {ns : List Int}
    (B : Below A₀ base [] h₀) (F : Fr h₀ L s.heap m) (X : (Mine.hd.heap_39 w.params).In h₀) (N : News h₀ L s.heap [(cO, oO), (cS, oS)])
    (T : Top Mine.hd.view_39 (looseW Mine.hd.view_39 [PySem.Str.ofString "RowsError", PySem.Str.ofString "LIMITS"]) mean mg mb h₀)
    (hd : dp + 10 < recursionLimit) (hu : un + 400 < cLine) (e3 : @Ne Nat cO cS) (hO : oO.data = .cell vO) (hS : oS.data = .cell vS)
    (hL : base.IsList l us.toArray) (hI : IntsAre us ns) (hn : ns.length ≤ 63) (hm : m (PySem.Str.ofString "script") = some (.ref l))
    (hE : PassesOwn (model (PySem.W.OpenLaw.row PySem.Challenge.rw_xm0683_01).prog w) (ktrTop dp un gd cn lawS L a ccd (lawCells cS cO) []) (envX cn lawS L a ccd (lawCells cS cO)) E)
    (ret : ∀ (m' : Str → Option Value) (h' : Heap) (tk' : Nat), Fr h₀ L h' m' → News h₀ L h' [] → Q (.ret (.bool true)) { s with heap := h', toks := tk' }) :
    wpAny (model (PySem.W.OpenLaw.row PySem.Challenge.rw_xm0683_01).prog w) (ktrTop dp un gd cn lawS L a ccd (lawCells cS cO) []) (execs (lawB.drop 3) (envX cn lawS L a ccd (lawCells cS cO))) Q E s := by
  w_top off
  k_with_none
  k_with "UnrEnd" => ((first
    | (refine unrEnd_mid (pre := []) (by k_asm) (by k_asm) (by k_all) (by k_all) ?_; k_whole)
    | (refine unrEnd_mid (pre := [_]) (by k_asm) (by k_asm) (by k_all) (by k_all) ?_; k_whole)
    | (refine unrEnd_mid (pre := [_, _]) (by k_asm) (by k_asm) (by k_all) (by k_all) ?_; k_whole)
    | (refine unrEnd_mid (pre := [_, _, _]) (by k_asm) (by k_asm) (by k_all) (by k_all) ?_; k_whole)
    | (refine unrEnd_mid (pre := [_, _, _, _]) (by k_asm) (by k_asm) (by k_all) (by k_all) ?_; k_whole)); (try dsimp only [List.cons_append, List.nil_append]))
  k_with "mine.and" => (first | assumption | exact And.left (by assumption) | exact And.left (And.right (by assumption)) | exact And.right (by assumption) | exact And.left (And.right (And.right (by assumption))) | exact And.right (And.right (by assumption)) | exact And.left (And.right (And.right (And.right (by assumption)))) | exact And.right (And.right (And.right (by assumption))) | exact And.left (And.right (And.right (And.right (And.right (by assumption))))) | exact And.right (And.right (And.right (And.right (by assumption)))) | exact And.left (And.right (And.right (And.right (And.right (And.right (by assumption)))))) | exact And.right (And.right (And.right (And.right (And.right (by assumption))))) | exact And.left (And.right (And.right (And.right (And.right (And.right (And.right (by assumption))))))) | exact And.right (And.right (And.right (And.right (And.right (And.right (by assumption)))))) | exact And.left (And.right (And.right (And.right (And.right (And.right (And.right (And.right (by assumption)))))))) | exact And.right (And.right (And.right (And.right (And.right (And.right (And.right (by assumption))))))) | exact And.left (And.right (And.right (And.right (And.right (And.right (And.right (And.right (And.right (by assumption))))))))) | exact And.right (And.right (And.right (And.right (And.right (And.right (And.right (And.right (by assumption)))))))) | exact And.left (And.right (And.right (And.right (And.right (And.right (And.right (And.right (And.right (And.right (by assumption)))))))))) | exact And.right (And.right (And.right (And.right (And.right (And.right (And.right (And.right (And.right (by assumption))))))))) | exact And.left (And.right (And.right (And.right (And.right (And.right (And.right (And.right (And.right (And.right (And.right (by assumption))))))))))) | exact And.right (And.right (And.right (And.right (And.right (And.right (And.right (And.right (And.right (And.right (by assumption)))))))))) | exact And.left (And.right (And.right (And.right (And.right (And.right (And.right (And.right (And.right (And.right (And.right (And.right (by assumption)))))))))))) | exact And.right (And.right (And.right (And.right (And.right (And.right (And.right (And.right (And.right (And.right (And.right (by assumption))))))))))) | exact And.left (And.right (And.right (And.right (And.right (And.right (And.right (And.right (And.right (And.right (And.right (And.right (And.right (by assumption))))))))))))) | exact And.right (And.right (And.right (And.right (And.right (And.right (And.right (And.right (And.right (And.right (And.right (And.right (by assumption)))))))))))) | exact And.left (And.right (And.right (And.right (And.right (And.right (And.right (And.right (And.right (And.right (And.right (And.right (And.right (And.right (by assumption)))))))))))))) | exact And.right (And.right (And.right (And.right (And.right (And.right (And.right (And.right (And.right (And.right (And.right (And.right (And.right (by assumption))))))))))))) | exact And.left (And.right (And.right (And.right (And.right (And.right (And.right (And.right (And.right (And.right (And.right (And.right (And.right (And.right (And.right (by assumption))))))))))))))) | exact And.right (And.right (And.right (And.right (And.right (And.right (And.right (And.right (And.right (And.right (And.right (And.right (And.right (And.right (by assumption)))))))))))))) | exact And.left (And.right (And.right (And.right (And.right (And.right (And.right (And.right (And.right (And.right (And.right (And.right (And.right (And.right (And.right (And.right (by assumption)))))))))))))))) | exact And.right (And.right (And.right (And.right (And.right (And.right (And.right (And.right (And.right (And.right (And.right (And.right (And.right (And.right (And.right (by assumption))))))))))))))) | exact And.left (And.right (And.right (And.right (And.right (And.right (And.right (And.right (And.right (And.right (And.right (And.right (And.right (And.right (And.right (And.right (And.right (by assumption))))))))))))))))) | exact And.right (And.right (And.right (And.right (And.right (And.right (And.right (And.right (And.right (And.right (And.right (And.right (And.right (And.right (And.right (And.right (by assumption)))))))))))))))) | exact And.left (And.right (And.right (And.right (And.right (And.right (And.right (And.right (And.right (And.right (And.right (And.right (And.right (And.right (And.right (And.right (And.right (And.right (by assumption)))))))))))))))))) | exact And.right (And.right (And.right (And.right (And.right (And.right (And.right (And.right (And.right (And.right (And.right (And.right (And.right (And.right (And.right (And.right (And.right (by assumption))))))))))))))))))
  k_with "call ref" => (
    k_here
    (try dsimp only [List.nil_append])
    (with_reducible show wpAny _ _ (call (Value.ref 132) []) _ _ _)
    k_dflt (refine con_app (by k_asm) (by k_asm) (by k_asm) (by k_asm) (by k_asm) (by first | exact rfl | assumption) (by ktr_room) (by ktr_units) (octets_con _ _ _ _ _) ?_)
    (try dsimp only)
    intros
    (with_reducible rename Fr _ _ _ _ ∧ News _ _ _ _ => hFN')
    (obtain ⟨F', N'⟩ := hFN')
    (try k_fold)
    (try k_sweep))
  k_with "call ref" => (
    k_here
    (try dsimp only [List.nil_append])
    (with_reducible show wpAny _ _ (call (Value.ref 137) []) _ _ _)
    k_dflt (refine codes_con _ _ _ _ _ _ _ _ _ _ _ _ _ _ _ _ _ _ _ _ _ (by k_asm) (by k_asm) (by k_asm) (by k_asm) (by k_asm) (by first | exact rfl | assumption) (by ktr_room) (by ktr_units) ?_)
    (try dsimp only)
    intro h' tk' F' N'
    (try k_fold)
    (try k_sweep))
  k_with "call ref" => (
    k_here
    (with_reducible show wpAny _ _ (call (Value.ref 97) [Value.ref _]) _ _ _)
    k_dflt (refine pool_con _ _ _ _ _ _ _ _ (by assumption) (by first | assumption | omega) _ _ _ _ _ _ _ _ _ _ _ _ _ _ _ _ _ (by k_asm) (by k_asm) (by k_asm) (by k_asm) (by k_asm) (by first | exact rfl | assumption) (by ktr_room) (by ktr_units) (by assumption) ?_)
    (try dsimp only)
    intro D' n' vs' x' y' h' tk' hi' hx' hy1' hy2' F' N' l1
    (simp only [AllLt, and_true] at l1)
    (try k_fold)
    (try k_sweep))
  k_with "exec For Name List cons nil" => (
    k_here
    (with_reducible refine leads_use (by k_dflt (exact rfl)) (by k_dflt (exact rfl)) (by k_dflt (exact rfl)) (by k_dflt assumption) (by k_asm) (by k_asm) (by k_asm) (by k_dflt (refine news_sub (by k_asm) (List.forall_mem_cons.mpr ⟨by k_mem, List.forall_mem_cons.mpr ⟨by k_mem, List.forall_mem_cons.mpr ⟨by k_mem, List.forall_mem_nil _⟩⟩⟩))) (by k_asm) (by ktr_room) (by ktr_units) (by k_ne) (by k_ne) (by k_ne) (by k_dflt assumption) (by k_dflt (exact ⟨_, _, by assumption, by assumption, by assumption, by assumption⟩)) (by first | passes_own | with_unfolding_all passes_own) ?_)
    
    
    
    
    
    
    
    
    
    
    
    
    
    
    
    
    
    intro m' h' tk' F' N'
    (try k_sweep))
  k_with "eval Name" => (k_here; (with_reducible show wpAny _ _ (eval (PySem.Expr.Name (PySem.Str.ofString "script") _) _) _ _ _); k_dflt (refine nameX_L (by k_asm) (by with_reducible assumption) ?_; k_whole))
  revert ret hE hu hd T N X F B
  dsimp only [lawS, lawB, lawF, bodyOf, scopeOf, PySem.Challenge.pw_xm0683_01, List.getLastD, List.getLast, List.drop]
  k_fill
  intro B F X N T hd hu hE ret
  k_steps
  all_goals exact ret _ _ _ (by k_asm) (by k_asm)

end

section
def rowFor : Stmt := (lawB.drop 2).headD (.Pass ⟨0, 0, 0, 0⟩)
def rowBody : List Stmt := bodyOf rowFor
set_option maxRecDepth 100000 in
set_option maxHeartbeats 8000000 in
theorem row_turnN {w : World} {mean : ExcName → Option Value} {mg mb : Str → Option Value} {dp un : Nat} {gd : Option (List Code)} {cn : Str} {a : Addr} {ccd : Value} {outer : List Env} {A₀ : Around} {base h₀ : Heap} {L : Addr} {m : Str → Option Value} {s : Shared} {Qf : Flow → Shared → Prop} {E : Value → Shared → Prop}
    {I T' O cS cO : Addr} {o : Obj} {news : List (Addr × Obj)} {ws : List Value} {ns : List Int} {n n2 : Nat}
    (B : Below A₀ base outer h₀) (F : Fr h₀ L s.heap m) (X : (Mine.hd.heap_39 w.params).In h₀) (N : News h₀ L s.heap ((I, o) :: news))
    (T : Top Mine.hd.view_39 (looseW Mine.hd.view_39 [PySem.Str.ofString "RowsError", PySem.Str.ofString "LIMITS"]) mean mg mb h₀)
    (hd : dp + 10 < recursionLimit) (hu : un + 400 < cLine) (hm : (T', tup [.ref O, .none] n) ∈ news) (hl : (O, listOf ws.toArray n2) ∈ news) (hI : IntsAre ws ns) (ho : KBa.In ns) (p1 : ns.length ≤ 16) (p0 : 0 < ns.length) (hw : wholeAt ns 0 = none)
    (ret : ∀ m' h' tk', Fr h₀ L h' m' → News h₀ L h' ((I, o) :: news) → m' (PySem.Str.ofString "script") = m (PySem.Str.ofString "script") → Qf .next { s with heap := h', toks := tk' }) :
    wpAny (model (PySem.W.OpenLaw.row PySem.Challenge.rw_xm0683_01).prog w) (ktrTop dp un gd cn lawS L a ccd (lawCells cS cO) outer) (assign (targetX rowFor) (envX cn lawS L a ccd (lawCells cS cO)) (.ref T'))
      (fun _ s₂ => wpAny (model (PySem.W.OpenLaw.row PySem.Challenge.rw_xm0683_01).prog w) (ktrTop dp un gd cn lawS L a ccd (lawCells cS cO) outer) (execs rowBody (envX cn lawS L a ccd (lawCells cS cO))) Qf E s₂) E s := by
  w_top off
  k_with_none
  k_with "UnrEnd" => ((first
    | (refine unrEnd_mid (pre := []) (by k_asm) (by k_asm) (by k_all) (by k_all) ?_; k_whole)
    | (refine unrEnd_mid (pre := [_]) (by k_asm) (by k_asm) (by k_all) (by k_all) ?_; k_whole)
    | (refine unrEnd_mid (pre := [_, _]) (by k_asm) (by k_asm) (by k_all) (by k_all) ?_; k_whole)
    | (refine unrEnd_mid (pre := [_, _, _]) (by k_asm) (by k_asm) (by k_all) (by k_all) ?_; k_whole)
    | (refine unrEnd_mid (pre := [_, _, _, _]) (by k_asm) (by k_asm) (by k_all) (by k_all) ?_; k_whole)); (try dsimp only [List.cons_append, List.nil_append]))
  k_with "mine.and" => (first | assumption | exact And.left (by assumption) | exact And.left (And.right (by assumption)) | exact And.right (by assumption) | exact And.left (And.right (And.right (by assumption))) | exact And.right (And.right (by assumption)) | exact And.left (And.right (And.right (And.right (by assumption)))) | exact And.right (And.right (And.right (by assumption))) | exact And.left (And.right (And.right (And.right (And.right (by assumption))))) | exact And.right (And.right (And.right (And.right (by assumption)))) | exact And.left (And.right (And.right (And.right (And.right (And.right (by assumption)))))) | exact And.right (And.right (And.right (And.right (And.right (by assumption))))) | exact And.left (And.right (And.right (And.right (And.right (And.right (And.right (by assumption))))))) | exact And.right (And.right (And.right (And.right (And.right (And.right (by assumption)))))) | exact And.left (And.right (And.right (And.right (And.right (And.right (And.right (And.right (by assumption)))))))) | exact And.right (And.right (And.right (And.right (And.right (And.right (And.right (by assumption))))))) | exact And.left (And.right (And.right (And.right (And.right (And.right (And.right (And.right (And.right (by assumption))))))))) | exact And.right (And.right (And.right (And.right (And.right (And.right (And.right (And.right (by assumption)))))))) | exact And.left (And.right (And.right (And.right (And.right (And.right (And.right (And.right (And.right (And.right (by assumption)))))))))) | exact And.right (And.right (And.right (And.right (And.right (And.right (And.right (And.right (And.right (by assumption))))))))) | exact And.left (And.right (And.right (And.right (And.right (And.right (And.right (And.right (And.right (And.right (And.right (by assumption))))))))))) | exact And.right (And.right (And.right (And.right (And.right (And.right (And.right (And.right (And.right (And.right (by assumption)))))))))) | exact And.left (And.right (And.right (And.right (And.right (And.right (And.right (And.right (And.right (And.right (And.right (And.right (by assumption)))))))))))) | exact And.right (And.right (And.right (And.right (And.right (And.right (And.right (And.right (And.right (And.right (And.right (by assumption))))))))))) | exact And.left (And.right (And.right (And.right (And.right (And.right (And.right (And.right (And.right (And.right (And.right (And.right (And.right (by assumption))))))))))))) | exact And.right (And.right (And.right (And.right (And.right (And.right (And.right (And.right (And.right (And.right (And.right (And.right (by assumption)))))))))))) | exact And.left (And.right (And.right (And.right (And.right (And.right (And.right (And.right (And.right (And.right (And.right (And.right (And.right (And.right (by assumption)))))))))))))) | exact And.right (And.right (And.right (And.right (And.right (And.right (And.right (And.right (And.right (And.right (And.right (And.right (And.right (by assumption))))))))))))) | exact And.left (And.right (And.right (And.right (And.right (And.right (And.right (And.right (And.right (And.right (And.right (And.right (And.right (And.right (And.right (by assumption))))))))))))))) | exact And.right (And.right (And.right (And.right (And.right (And.right (And.right (And.right (And.right (And.right (And.right (And.right (And.right (And.right (by assumption)))))))))))))) | exact And.left (And.right (And.right (And.right (And.right (And.right (And.right (And.right (And.right (And.right (And.right (And.right (And.right (And.right (And.right (And.right (by assumption)))))))))))))))) | exact And.right (And.right (And.right (And.right (And.right (And.right (And.right (And.right (And.right (And.right (And.right (And.right (And.right (And.right (And.right (by assumption))))))))))))))) | exact And.left (And.right (And.right (And.right (And.right (And.right (And.right (And.right (And.right (And.right (And.right (And.right (And.right (And.right (And.right (And.right (And.right (by assumption))))))))))))))))) | exact And.right (And.right (And.right (And.right (And.right (And.right (And.right (And.right (And.right (And.right (And.right (And.right (And.right (And.right (And.right (And.right (by assumption)))))))))))))))) | exact And.left (And.right (And.right (And.right (And.right (And.right (And.right (And.right (And.right (And.right (And.right (And.right (And.right (And.right (And.right (And.right (And.right (And.right (by assumption)))))))))))))))))) | exact And.right (And.right (And.right (And.right (And.right (And.right (And.right (And.right (And.right (And.right (And.right (And.right (And.right (And.right (And.right (And.right (And.right (by assumption))))))))))))))))))
  k_with "call ref" => (
    k_here
    (with_reducible show wpAny _ _ (call (Value.ref 90) [Value.bytes _ _, Value.int 0 _]) _ _ _)
    k_dflt (first
      | (refine con_app (by k_asm) (by k_asm) (by k_asm) (by k_asm) (by k_asm) (by exact rfl) (by ktr_room) (by ktr_units) (whole_N _ _ _ _ _ _ _ _ _ (KBa.ints_make (by assumption)) (by assumption) (by assumption) (by assumption)) ?_)
      | (refine con_app (by k_asm) (by k_asm) (by k_asm) (by k_asm) (by k_asm) (by exact rfl) (by ktr_room) (by ktr_units) (whole_S _ _ _ _ _ _ _ _ _ _ (KBa.ints_make (by assumption)) (by assumption) (by assumption) (by assumption)) ?_))
    (try dsimp only)
    intros
    (with_reducible rename Fr _ _ _ _ ∧ News _ _ _ _ => hFN')
    (obtain ⟨F', N'⟩ := hFN')
    (try k_fold)
    (try k_sweep))
  k_with "call type:bytes" => (
    k_here
    (with_reducible show wpAny _ _ (call (Value.type "bytes") [Value.ref _]) _ _ _)
    k_dflt (refine KBa.make_K (by k_asm) (by k_asm) (by rfl) (News.isList (by k_asm) (List.Mem.tail _ (by assumption))) (by assumption) (by assumption) (by omega) ?_)
    intro _ _ _ F' N' kbaIn)
  k_with "compareOp NotEq int int" => (k_here; with_reducible refine ne_int_same ?_)
  k_with "assign Tuple" => (k_here; (with_reducible show wpAny _ _ (assign (PySem.Expr.Tuple _ _ _) _ (Value.ref _)) _ _ _); k_dflt (refine unpackN_ (by k_asm) (by k_asm) (News.isTup (by k_asm) (List.Mem.tail _ (by assumption))) (by exact rfl) (by exact rfl) (by exact rfl) ?_; k_whole); intro h' F' N'; (try k_sweep))
  revert ret hu hd T N X F B
  dsimp only [rowFor, rowBody, lawS, lawB, lawF, bodyOf, scopeOf, targetX, PySem.Challenge.pw_xm0683_01, List.getLastD, List.getLast, List.drop, List.headD]
  k_fill
  intro B F X N T hd hu ret
  k_steps
  all_goals exact ret _ _ _ (by k_asm) (by k_asm) (by exact rfl)
set_option maxRecDepth 100000 in
set_option maxHeartbeats 8000000 in
theorem row_turnS {w : World} {mean : ExcName → Option Value} {mg mb : Str → Option Value} {dp un : Nat} {gd : Option (List Code)} {cn : Str} {a : Addr} {ccd : Value} {outer : List Env} {A₀ : Around} {base h₀ : Heap} {L : Addr} {m : Str → Option Value} {s : Shared} {Qf : Flow → Shared → Prop} {E : Value → Shared → Prop}
    {I T' O cS cO : Addr} {o : Obj} {news : List (Addr × Obj)} {ws : List Value} {ns : List Int} {n n2 : Nat} {c : Int} {tc : Tok}
    (B : Below A₀ base outer h₀) (F : Fr h₀ L s.heap m) (X : (Mine.hd.heap_39 w.params).In h₀) (N : News h₀ L s.heap ((I, o) :: news))
    (T : Top Mine.hd.view_39 (looseW Mine.hd.view_39 [PySem.Str.ofString "RowsError", PySem.Str.ofString "LIMITS"]) mean mg mb h₀)
    (hd : dp + 10 < recursionLimit) (hu : un + 400 < cLine) (hm : (T', tup [.ref O, .int c tc] n) ∈ news) (hl : (O, listOf ws.toArray n2) ∈ news) (hI : IntsAre ws ns) (ho : KBa.In ns) (p1 : ns.length ≤ 16) (p0 : 0 < ns.length) (hw : wholeAt ns 0 = some c)
    (ret : ∀ m' h' tk', Fr h₀ L h' m' → News h₀ L h' ((I, o) :: news) → m' (PySem.Str.ofString "script") = m (PySem.Str.ofString "script") → Qf .next { s with heap := h', toks := tk' }) :
    wpAny (model (PySem.W.OpenLaw.row PySem.Challenge.rw_xm0683_01).prog w) (ktrTop dp un gd cn lawS L a ccd (lawCells cS cO) outer) (assign (targetX rowFor) (envX cn lawS L a ccd (lawCells cS cO)) (.ref T'))
      (fun _ s₂ => wpAny (model (PySem.W.OpenLaw.row PySem.Challenge.rw_xm0683_01).prog w) (ktrTop dp un gd cn lawS L a ccd (lawCells cS cO) outer) (execs rowBody (envX cn lawS L a ccd (lawCells cS cO))) Qf E s₂) E s := by
  w_top off
  k_with_none
  k_with "UnrEnd" => ((first
    | (refine unrEnd_mid (pre := []) (by k_asm) (by k_asm) (by k_all) (by k_all) ?_; k_whole)
    | (refine unrEnd_mid (pre := [_]) (by k_asm) (by k_asm) (by k_all) (by k_all) ?_; k_whole)
    | (refine unrEnd_mid (pre := [_, _]) (by k_asm) (by k_asm) (by k_all) (by k_all) ?_; k_whole)
    | (refine unrEnd_mid (pre := [_, _, _]) (by k_asm) (by k_asm) (by k_all) (by k_all) ?_; k_whole)
    | (refine unrEnd_mid (pre := [_, _, _, _]) (by k_asm) (by k_asm) (by k_all) (by k_all) ?_; k_whole)); (try dsimp only [List.cons_append, List.nil_append]))
  k_with "mine.and" => (first | assumption | exact And.left (by assumption) | exact And.left (And.right (by assumption)) | exact And.right (by assumption) | exact And.left (And.right (And.right (by assumption))) | exact And.right (And.right (by assumption)) | exact And.left (And.right (And.right (And.right (by assumption)))) | exact And.right (And.right (And.right (by assumption))) | exact And.left (And.right (And.right (And.right (And.right (by assumption))))) | exact And.right (And.right (And.right (And.right (by assumption)))) | exact And.left (And.right (And.right (And.right (And.right (And.right (by assumption)))))) | exact And.right (And.right (And.right (And.right (And.right (by assumption))))) | exact And.left (And.right (And.right (And.right (And.right (And.right (And.right (by assumption))))))) | exact And.right (And.right (And.right (And.right (And.right (And.right (by assumption)))))) | exact And.left (And.right (And.right (And.right (And.right (And.right (And.right (And.right (by assumption)))))))) | exact And.right (And.right (And.right (And.right (And.right (And.right (And.right (by assumption))))))) | exact And.left (And.right (And.right (And.right (And.right (And.right (And.right (And.right (And.right (by assumption))))))))) | exact And.right (And.right (And.right (And.right (And.right (And.right (And.right (And.right (by assumption)))))))) | exact And.left (And.right (And.right (And.right (And.right (And.right (And.right (And.right (And.right (And.right (by assumption)))))))))) | exact And.right (And.right (And.right (And.right (And.right (And.right (And.right (And.right (And.right (by assumption))))))))) | exact And.left (And.right (And.right (And.right (And.right (And.right (And.right (And.right (And.right (And.right (And.right (by assumption))))))))))) | exact And.right (And.right (And.right (And.right (And.right (And.right (And.right (And.right (And.right (And.right (by assumption)))))))))) | exact And.left (And.right (And.right (And.right (And.right (And.right (And.right (And.right (And.right (And.right (And.right (And.right (by assumption)))))))))))) | exact And.right (And.right (And.right (And.right (And.right (And.right (And.right (And.right (And.right (And.right (And.right (by assumption))))))))))) | exact And.left (And.right (And.right (And.right (And.right (And.right (And.right (And.right (And.right (And.right (And.right (And.right (And.right (by assumption))))))))))))) | exact And.right (And.right (And.right (And.right (And.right (And.right (And.right (And.right (And.right (And.right (And.right (And.right (by assumption)))))))))))) | exact And.left (And.right (And.right (And.right (And.right (And.right (And.right (And.right (And.right (And.right (And.right (And.right (And.right (And.right (by assumption)))))))))))))) | exact And.right (And.right (And.right (And.right (And.right (And.right (And.right (And.right (And.right (And.right (And.right (And.right (And.right (by assumption))))))))))))) | exact And.left (And.right (And.right (And.right (And.right (And.right (And.right (And.right (And.right (And.right (And.right (And.right (And.right (And.right (And.right (by assumption))))))))))))))) | exact And.right (And.right (And.right (And.right (And.right (And.right (And.right (And.right (And.right (And.right (And.right (And.right (And.right (And.right (by assumption)))))))))))))) | exact And.left (And.right (And.right (And.right (And.right (And.right (And.right (And.right (And.right (And.right (And.right (And.right (And.right (And.right (And.right (And.right (by assumption)))))))))))))))) | exact And.right (And.right (And.right (And.right (And.right (And.right (And.right (And.right (And.right (And.right (And.right (And.right (And.right (And.right (And.right (by assumption))))))))))))))) | exact And.left (And.right (And.right (And.right (And.right (And.right (And.right (And.right (And.right (And.right (And.right (And.right (And.right (And.right (And.right (And.right (And.right (by assumption))))))))))))))))) | exact And.right (And.right (And.right (And.right (And.right (And.right (And.right (And.right (And.right (And.right (And.right (And.right (And.right (And.right (And.right (And.right (by assumption)))))))))))))))) | exact And.left (And.right (And.right (And.right (And.right (And.right (And.right (And.right (And.right (And.right (And.right (And.right (And.right (And.right (And.right (And.right (And.right (And.right (by assumption)))))))))))))))))) | exact And.right (And.right (And.right (And.right (And.right (And.right (And.right (And.right (And.right (And.right (And.right (And.right (And.right (And.right (And.right (And.right (And.right (by assumption))))))))))))))))))
  k_with "call ref" => (
    k_here
    (with_reducible show wpAny _ _ (call (Value.ref 90) [Value.bytes _ _, Value.int 0 _]) _ _ _)
    k_dflt (first
      | (refine con_app (by k_asm) (by k_asm) (by k_asm) (by k_asm) (by k_asm) (by exact rfl) (by ktr_room) (by ktr_units) (whole_N _ _ _ _ _ _ _ _ _ (KBa.ints_make (by assumption)) (by assumption) (by assumption) (by assumption)) ?_)
      | (refine con_app (by k_asm) (by k_asm) (by k_asm) (by k_asm) (by k_asm) (by exact rfl) (by ktr_room) (by ktr_units) (whole_S _ _ _ _ _ _ _ _ _ _ (KBa.ints_make (by assumption)) (by assumption) (by assumption) (by assumption)) ?_))
    (try dsimp only)
    intros
    (with_reducible rename Fr _ _ _ _ ∧ News _ _ _ _ => hFN')
    (obtain ⟨F', N'⟩ := hFN')
    (try k_fold)
    (try k_sweep))
  k_with "call type:bytes" => (
    k_here
    (with_reducible show wpAny _ _ (call (Value.type "bytes") [Value.ref _]) _ _ _)
    k_dflt (refine KBa.make_K (by k_asm) (by k_asm) (by rfl) (News.isList (by k_asm) (List.Mem.tail _ (by assumption))) (by assumption) (by assumption) (by omega) ?_)
    intro _ _ _ F' N' kbaIn)
  k_with "compareOp NotEq int int" => (k_here; with_reducible refine ne_int_same ?_)
  k_with "assign Tuple" => (k_here; (with_reducible show wpAny _ _ (assign (PySem.Expr.Tuple _ _ _) _ (Value.ref _)) _ _ _); k_dflt (refine unpackN_ (by k_asm) (by k_asm) (News.isTup (by k_asm) (List.Mem.tail _ (by assumption))) (by exact rfl) (by exact rfl) (by exact rfl) ?_; k_whole); intro h' F' N'; (try k_sweep))
  revert ret hu hd T N X F B
  dsimp only [rowFor, rowBody, lawS, lawB, lawF, bodyOf, scopeOf, targetX, PySem.Challenge.pw_xm0683_01, List.getLastD, List.getLast, List.drop, List.headD]
  k_fill
  intro B F X N T hd hu ret
  k_steps
  all_goals exact ret _ _ _ (by k_asm) (by k_asm) (by exact rfl)
def RowG (news : List (Addr × Obj)) (v : Value) : Prop := ∃ T O ws ns n n2, v = .ref T ∧ (O, listOf (List.toArray ws) n2) ∈ news ∧ IntsAre ws ns ∧ KBa.In ns ∧ ns.length ≤ 16 ∧ 0 < ns.length ∧
  ((wholeAt ns 0 = none ∧ (T, tup [.ref O, .none] n) ∈ news) ∨ ∃ c t, wholeAt ns 0 = some c ∧ (T, tup [.ref O, .int c t] n) ∈ news)
def okInts (ns : List Int) : Bool := ns.all fun v => decide (0 ≤ v ∧ v < 256)
theorem okInts_in {ns : List Int} (h : okInts ns = true) : KBa.In ns := fun v hv => of_decide_eq_true (List.all_eq_true.mp h v hv)
theorem rowG_N {news : List (Addr × Obj)} {T O : Addr} {ws : List Value} {ns : List Int} {n n2 : Nat} (h : (T, tup [.ref O, .none] n) ∈ news) (hl : (O, listOf ws.toArray n2) ∈ news) (hI : IntsAre ws ns)
    (e : (wholeAt ns 0, okInts ns, decide (ns.length ≤ 16), decide (0 < ns.length)) = (none, true, true, true)) : RowG news (.ref T) :=
  ⟨T, O, ws, ns, n, n2, rfl, hl, hI, okInts_in (congrArg (·.2.1) e), of_decide_eq_true (congrArg (·.2.2.1) e), of_decide_eq_true (congrArg (·.2.2.2) e), .inl ⟨congrArg (·.1) e, h⟩⟩
theorem rowG_S {news : List (Addr × Obj)} {T O : Addr} {ws : List Value} {ns : List Int} {n n2 : Nat} {c : Int} {tc : Tok} (h : (T, tup [.ref O, .int c tc] n) ∈ news) (hl : (O, listOf ws.toArray n2) ∈ news) (hI : IntsAre ws ns)
    (e : (wholeAt ns 0, okInts ns, decide (ns.length ≤ 16), decide (0 < ns.length)) = (some c, true, true, true)) : RowG news (.ref T) :=
  ⟨T, O, ws, ns, n, n2, rfl, hl, hI, okInts_in (congrArg (·.2.1) e), of_decide_eq_true (congrArg (·.2.2.1) e), of_decide_eq_true (congrArg (·.2.2.2) e), .inr ⟨c, tc, congrArg (·.1) e, h⟩⟩
theorem rows_items {w : World} {mean : ExcName → Option Value} {mg mb : Str → Option Value} {dp un : Nat} {gd : Option (List Code)} {cn : Str} {a : Addr} {ccd : Value} {outer : List Env} {A₀ : Around} {base h₀ : Heap} {L : Addr} {m : Str → Option Value} {s : Shared} {Q : Flow → Shared → Prop} {E : Value → Shared → Prop}
    {I cS cO : Addr} {news keep : List (Addr × Obj)} {vs : List Value} {env : Env} {A : Around} {tgt : PySem.Expr} {body : List Stmt} (v₀ : Option Value)
    (htg : tgt = targetX rowFor) (hbd : body = rowBody) (henv : env = envX cn lawS L a ccd (lawCells cS cO)) (hA : A = ktrTop dp un gd cn lawS L a ccd (lawCells cS cO) outer) (hI : ∀ p ∈ news, p.1 < I) (hk : SubL keep news) (B : Below A₀ base outer h₀) (X : (Mine.hd.heap_39 w.params).In h₀)
    (T : Top Mine.hd.view_39 (looseW Mine.hd.view_39 [PySem.Str.ofString "RowsError", PySem.Str.ofString "LIMITS"]) mean mg mb h₀)
    (hd : dp + 10 < recursionLimit) (hu : un + 400 < cLine) (hv : ∀ v ∈ vs, RowG news v) (hm : m (PySem.Str.ofString "script") = v₀)
    (done : ∀ m h tk, Fr h₀ L h m → News h₀ L h news → m (PySem.Str.ofString "script") = v₀ → Q .next { s with heap := h, toks := tk }) :
    ItemsRest (PySem.W.OpenLaw.row PySem.Challenge.rw_xm0683_01).prog w A E h₀ env tgt body Q s [(I, "list_iterator")] keep (vs.map .val) m news := by
  subst htg hbd henv hA
  refine items_inv (env := envX cn lawS L a ccd (lawCells cS cO)) (RowG news) (fun m => m (PySem.Str.ofString "script") = v₀) hI hk ?_ done vs m hm hv
  rintro v m h tk o Qf ⟨T', O, ws, ns, n, n2, rfl, hl, hI', ho, p1, p0, ⟨hw, hm'⟩ | ⟨c, tc, hw, hm'⟩⟩ hs F N ret
  · with_reducible exact row_turnN (s := { s with heap := h, toks := tk }) B F X N T hd hu hm' hl hI' ho p1 p0 hw fun m' h' tk' F' N' e => ret m' h' tk' (e.trans hs) F' N'
  · with_reducible exact row_turnS (s := { s with heap := h, toks := tk }) B F X N T hd hu hm' hl hI' ho p1 p0 hw fun m' h' tk' F' N' e => ret m' h' tk' (e.trans hs) F' N'
set_option maxRecDepth 100000 in
set_option maxHeartbeats 8000000 in
theorem rows8_ok {w : World} {mean : ExcName → Option Value} {mg mb : Str → Option Value} {dp un : Nat} {gd : Option (List Code)} {cn : Str} {a : Addr} {ccd : Value} {outer : List Env} {A₀ : Around} {base h₀ : Heap} {L : Addr} {m : Str → Option Value} {s : Shared} {Q : Flow → Shared → Prop} {E : Value → Shared → Prop}
    {cS cO : Addr} {oO oS : Obj} {more : List Stmt}
    (B : Below A₀ base outer h₀) (F : Fr h₀ L s.heap m) (X : (Mine.hd.heap_39 w.params).In h₀) (N : News h₀ L s.heap [(cO, oO), (cS, oS)])
    (T : Top Mine.hd.view_39 (looseW Mine.hd.view_39 [PySem.Str.ofString "RowsError", PySem.Str.ofString "LIMITS"]) mean mg mb h₀)
    (hd : dp + 10 < recursionLimit) (hu : un + 400 < cLine)
    (hE : PassesOwn (model (PySem.W.OpenLaw.row PySem.Challenge.rw_xm0683_01).prog w) (ktrTop dp un gd cn lawS L a ccd (lawCells cS cO) outer) (envX cn lawS L a ccd (lawCells cS cO)) E)
    (ret : ∀ (m' : Str → Option Value) (h' : Heap) (tk' : Nat), Fr h₀ L h' m' → News h₀ L h' [(cO, oO), (cS, oS)] → m' (PySem.Str.ofString "script") = m (PySem.Str.ofString "script") →
      wpAny (model (PySem.W.OpenLaw.row PySem.Challenge.rw_xm0683_01).prog w) (ktrTop dp un gd cn lawS L a ccd (lawCells cS cO) outer) (execs more (envX cn lawS L a ccd (lawCells cS cO))) Q E { s with heap := h', toks := tk' }) :
    wpAny (model (PySem.W.OpenLaw.row PySem.Challenge.rw_xm0683_01).prog w) (ktrTop dp un gd cn lawS L a ccd (lawCells cS cO) outer) (execs (lawB.take 3 ++ more) (envX cn lawS L a ccd (lawCells cS cO))) Q E s := by
  w_top off
  k_with_none
  k_with "UnrEnd" => ((first
    | (refine unrEnd_mid (pre := []) (by k_asm) (by k_asm) (by k_all) (by k_all) ?_; k_whole)
    | (refine unrEnd_mid (pre := [_]) (by k_asm) (by k_asm) (by k_all) (by k_all) ?_; k_whole)
    | (refine unrEnd_mid (pre := [_, _]) (by k_asm) (by k_asm) (by k_all) (by k_all) ?_; k_whole)
    | (refine unrEnd_mid (pre := [_, _, _]) (by k_asm) (by k_asm) (by k_all) (by k_all) ?_; k_whole)
    | (refine unrEnd_mid (pre := [_, _, _, _]) (by k_asm) (by k_asm) (by k_all) (by k_all) ?_; k_whole)); (try dsimp only [List.cons_append, List.nil_append]))
  k_with "mine.and" => (first | assumption | exact And.left (by assumption) | exact And.left (And.right (by assumption)) | exact And.right (by assumption) | exact And.left (And.right (And.right (by assumption))) | exact And.right (And.right (by assumption)) | exact And.left (And.right (And.right (And.right (by assumption)))) | exact And.right (And.right (And.right (by assumption))) | exact And.left (And.right (And.right (And.right (And.right (by assumption))))) | exact And.right (And.right (And.right (And.right (by assumption)))) | exact And.left (And.right (And.right (And.right (And.right (And.right (by assumption)))))) | exact And.right (And.right (And.right (And.right (And.right (by assumption))))) | exact And.left (And.right (And.right (And.right (And.right (And.right (And.right (by assumption))))))) | exact And.right (And.right (And.right (And.right (And.right (And.right (by assumption)))))) | exact And.left (And.right (And.right (And.right (And.right (And.right (And.right (And.right (by assumption)))))))) | exact And.right (And.right (And.right (And.right (And.right (And.right (And.right (by assumption))))))) | exact And.left (And.right (And.right (And.right (And.right (And.right (And.right (And.right (And.right (by assumption))))))))) | exact And.right (And.right (And.right (And.right (And.right (And.right (And.right (And.right (by assumption)))))))) | exact And.left (And.right (And.right (And.right (And.right (And.right (And.right (And.right (And.right (And.right (by assumption)))))))))) | exact And.right (And.right (And.right (And.right (And.right (And.right (And.right (And.right (And.right (by assumption))))))))) | exact And.left (And.right (And.right (And.right (And.right (And.right (And.right (And.right (And.right (And.right (And.right (by assumption))))))))))) | exact And.right (And.right (And.right (And.right (And.right (And.right (And.right (And.right (And.right (And.right (by assumption)))))))))) | exact And.left (And.right (And.right (And.right (And.right (And.right (And.right (And.right (And.right (And.right (And.right (And.right (by assumption)))))))))))) | exact And.right (And.right (And.right (And.right (And.right (And.right (And.right (And.right (And.right (And.right (And.right (by assumption))))))))))) | exact And.left (And.right (And.right (And.right (And.right (And.right (And.right (And.right (And.right (And.right (And.right (And.right (And.right (by assumption))))))))))))) | exact And.right (And.right (And.right (And.right (And.right (And.right (And.right (And.right (And.right (And.right (And.right (And.right (by assumption)))))))))))) | exact And.left (And.right (And.right (And.right (And.right (And.right (And.right (And.right (And.right (And.right (And.right (And.right (And.right (And.right (by assumption)))))))))))))) | exact And.right (And.right (And.right (And.right (And.right (And.right (And.right (And.right (And.right (And.right (And.right (And.right (And.right (by assumption))))))))))))) | exact And.left (And.right (And.right (And.right (And.right (And.right (And.right (And.right (And.right (And.right (And.right (And.right (And.right (And.right (And.right (by assumption))))))))))))))) | exact And.right (And.right (And.right (And.right (And.right (And.right (And.right (And.right (And.right (And.right (And.right (And.right (And.right (And.right (by assumption)))))))))))))) | exact And.left (And.right (And.right (And.right (And.right (And.right (And.right (And.right (And.right (And.right (And.right (And.right (And.right (And.right (And.right (And.right (by assumption)))))))))))))))) | exact And.right (And.right (And.right (And.right (And.right (And.right (And.right (And.right (And.right (And.right (And.right (And.right (And.right (And.right (And.right (by assumption))))))))))))))) | exact And.left (And.right (And.right (And.right (And.right (And.right (And.right (And.right (And.right (And.right (And.right (And.right (And.right (And.right (And.right (And.right (And.right (by assumption))))))))))))))))) | exact And.right (And.right (And.right (And.right (And.right (And.right (And.right (And.right (And.right (And.right (And.right (And.right (And.right (And.right (And.right (And.right (by assumption)))))))))))))))) | exact And.left (And.right (And.right (And.right (And.right (And.right (And.right (And.right (And.right (And.right (And.right (And.right (And.right (And.right (And.right (And.right (And.right (And.right (by assumption)))))))))))))))))) | exact And.right (And.right (And.right (And.right (And.right (And.right (And.right (And.right (And.right (And.right (And.right (And.right (And.right (And.right (And.right (And.right (And.right (by assumption))))))))))))))))))
  k_with "exec For Tuple BinOp cons nil" => (k_here; (rename Fr _ _ _ _ => lF'); (with_unfolding_all refine' For_turns lF' ?_; k_whole))
  k_with "pyIter ref" => (
    k_here
    (with_reducible show wpAny _ _ (pyIter (Value.ref _)) (fun it s₂ => TurnsAt _ _ _ _ _ _ _ _ _ it s₂) _ _)
    (with_unfolding_all refine list_turns (by rfl) (by k_asm) (by k_asm) (by k_mem) (by exact rfl) ?_)
    intro i' l1
    (with_reducible refine rows_items _ (by k_dflt (exact rfl)) (by k_dflt (exact rfl)) (by k_dflt (exact rfl)) (by k_dflt (exact rfl)) l1 (by k_dflt k_subL) (by k_asm) (by k_asm) (by k_asm) (by ktr_room) (by ktr_units) (by k_dflt (exact List.forall_mem_cons.mpr ⟨by first | exact rowG_N (by k_mem) (by k_mem) (by repeat constructor) (by exact rfl) | exact rowG_S (by k_mem) (by k_mem) (by repeat constructor) (by exact rfl), List.forall_mem_cons.mpr ⟨by first | exact rowG_N (by k_mem) (by k_mem) (by repeat constructor) (by exact rfl) | exact rowG_S (by k_mem) (by k_mem) (by repeat constructor) (by exact rfl), List.forall_mem_cons.mpr ⟨by first | exact rowG_N (by k_mem) (by k_mem) (by repeat constructor) (by exact rfl) | exact rowG_S (by k_mem) (by k_mem) (by repeat constructor) (by exact rfl), List.forall_mem_cons.mpr ⟨by first | exact rowG_N (by k_mem) (by k_mem) (by repeat constructor) (by exact rfl) | exact rowG_S (by k_mem) (by k_mem) (by repeat constructor) (by exact rfl), List.forall_mem_cons.mpr ⟨by first | exact rowG_N (by k_mem) (by k_mem) (by repeat constructor) (by exact rfl) | exact rowG_S (by k_mem) (by k_mem) (by repeat constructor) (by exact rfl), List.forall_mem_cons.mpr ⟨by first | exact rowG_N (by k_mem) (by k_mem) (by repeat constructor) (by exact rfl) | exact rowG_S (by k_mem) (by k_mem) (by repeat constructor) (by exact rfl), List.forall_mem_cons.mpr ⟨by first | exact rowG_N (by k_mem) (by k_mem) (by repeat constructor) (by exact rfl) | exact rowG_S (by k_mem) (by k_mem) (by repeat constructor) (by exact rfl), List.forall_mem_cons.mpr ⟨by first | exact rowG_N (by k_mem) (by k_mem) (by repeat constructor) (by exact rfl) | exact rowG_S (by k_mem) (by k_mem) (by repeat constructor) (by exact rfl), List.forall_mem_nil _⟩⟩⟩⟩⟩⟩⟩⟩)) (by k_dflt (exact rfl)) ?_)
    intro m' h' tk' F' N' hsc'
    (try k_sweep))
  revert ret hE hu hd T N X F B
  dsimp only [lawS, lawB, lawF, bodyOf, scopeOf, PySem.Challenge.pw_xm0683_01, List.getLastD, List.getLast, List.take, List.cons_append, List.nil_append]
  k_fill
  intro B F X N T hd hu hE ret
  k_steps
  all_goals (
    (refine' ret _ _ _ ?F ?N ?c)
    case F => k_asm
    case c => assumption
    case N => refine news_sub (by k_asm) (List.forall_mem_cons.mpr ⟨by k_mem, List.forall_mem_cons.mpr ⟨by k_mem, List.forall_mem_nil _⟩⟩))

end

section
section
variable {w : World} {mean : ExcName → Option Value} {mg mb : Str → Option Value} {dp un : Nat} {gd : Option (List Code)} {cn : Str} {a : Addr} {ccd : Value} {A₀ : Around} {base h₀ : Heap} {L : Addr} {m : Str → Option Value} {s : Shared} {Q : Flow → Shared → Prop} {E : Value → Shared → Prop}
variable {cS cO l : Addr} {oO oS : Obj} {vO vS : Option Value} {us : List Value} {ns : List Int}
theorem law_ok (B : Below A₀ base [] h₀) (F : Fr h₀ L s.heap m) (X : (Mine.hd.heap_39 w.params).In h₀) (N : News h₀ L s.heap [(cO, oO), (cS, oS)])
    (T : Top Mine.hd.view_39 (looseW Mine.hd.view_39 [PySem.Str.ofString "RowsError", PySem.Str.ofString "LIMITS"]) mean mg mb h₀)
    (hd : dp + 10 < recursionLimit) (hu : un + 400 < cLine) (e3 : @Ne Nat cO cS) (hO : oO.data = .cell vO) (hS : oS.data = .cell vS) (hm : m (PySem.Str.ofString "script") = some (.ref l))
    (hL : base.IsList l us.toArray) (hI : IntsAre us ns) (hn : ns.length ≤ 63)
    (hE : PassesOwn (model (PySem.W.OpenLaw.row PySem.Challenge.rw_xm0683_01).prog w) (ktrTop dp un gd cn lawS L a ccd (lawCells cS cO) []) (envX cn lawS L a ccd (lawCells cS cO)) E)
    (ret : ∀ (m' : Str → Option Value) (h' : Heap) (tk' : Nat), Fr h₀ L h' m' → News h₀ L h' [] → Q (.ret (.bool true)) { s with heap := h', toks := tk' }) :
    wpAny (model (PySem.W.OpenLaw.row PySem.Challenge.rw_xm0683_01).prog w) (ktrTop dp un gd cn lawS L a ccd (lawCells cS cO) []) (execs lawB (envX cn lawS L a ccd (lawCells cS cO))) Q E s := by
  have e : lawB = lawB.take 3 ++ lawB.drop 3 := (List.take_append_drop 3 lawB).symm
  rw [e]
  with_reducible refine rows8_ok (more := lawB.drop 3) B F X N T hd hu hE ?_
  intro m' h' tk' F' N' hm'
  with_reducible refine tail_ok B F' X N' T hd hu e3 hO hS hL hI hn (hm'.trans hm) hE ?_
  intro m'' h'' tk'' F'' N''
  exact ret m'' h'' tk'' F'' N''
theorem law_use {sts : List Stmt} {env : Env} {A : Around}
    (hst : sts = lawB) (henv : env = envX cn lawS L a ccd (lawCells cS cO)) (hA : A = ktrTop dp un gd cn lawS L a ccd (lawCells cS cO) [])
    (B : Below A₀ base [] h₀) (F : Fr h₀ L s.heap m) (X : (Mine.hd.heap_39 w.params).In h₀) (N : News h₀ L s.heap [(cO, oO), (cS, oS)])
    (T : Top Mine.hd.view_39 (looseW Mine.hd.view_39 [PySem.Str.ofString "RowsError", PySem.Str.ofString "LIMITS"]) mean mg mb h₀)
    (hd : dp + 10 < recursionLimit) (hu : un + 400 < cLine) (e3 : @Ne Nat cO cS) (hO : oO.data = .cell vO) (hS : oS.data = .cell vS) (hm : m (PySem.Str.ofString "script") = some (.ref l))
    (hL : base.IsList l us.toArray) (hI : IntsAre us ns) (hn : ns.length ≤ 63)
    (hE : PassesOwn (model (PySem.W.OpenLaw.row PySem.Challenge.rw_xm0683_01).prog w) A env E)
    (ret : ∀ (m' : Str → Option Value) (h' : Heap) (tk' : Nat), Fr h₀ L h' m' → News h₀ L h' [] → Q (.ret (.bool true)) { s with heap := h', toks := tk' }) :
    wpAny (model (PySem.W.OpenLaw.row PySem.Challenge.rw_xm0683_01).prog w) A (execs sts env) Q E s := by
  subst hst henv hA
  with_reducible exact law_ok B F X N T hd hu e3 hO hS hm hL hI hn hE ret
end

end

end Mine
set_option maxRecDepth 100000 in
set_option maxHeartbeats 8000000 in
theorem PySem.Challenge.cw_xm0683_01_holds : PySem.Challenge.rw_xm0683_01.Holds := by
  refine Mine.hd ?_
  w_strict (k_go0; (all_goals try k_fold))
  k_here
  (with_reducible refine' Mine.law_use ?hst ?henv ?hA ?B ?F ?X ?N ?T ?hd ?hu ?e3 ?hO ?hS ?hm ?hL ?hI ?hn ?hE ?_)
  (case hst => k_dflt (exact rfl))
  (case henv => k_dflt (exact rfl))
  (case hA => k_dflt (exact rfl))
  (case B => k_asm)
  (case F => k_asm)
  (case X => k_asm)
  (case T => k_asm)
  (case N => k_dflt (refine Mine.news_sub (by k_asm) (List.forall_mem_cons.mpr ⟨by k_mem, List.forall_mem_cons.mpr ⟨by k_mem, List.forall_mem_nil _⟩⟩)))
  (case hd => ktr_room)
  (case hu => ktr_units)
  (case e3 => k_ne)
  (case hO => k_dflt assumption)
  (case hS => k_dflt assumption)
  (case hm => k_dflt (exact rfl))
  (case hL => k_dflt assumption)
  (case hI => k_dflt assumption)
  (case hn => omega)
  (case hE => first | passes_own | with_unfolding_all passes_own)
  intro m' h' tk' F' N'
  (try k_sweep)
  k_steps

