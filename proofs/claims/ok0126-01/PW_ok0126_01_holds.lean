import PyProof.Rows.All
import Wide.All
import OpenK.AllK
import Wide.FinOn
import PySem.Challenge.RW_ok0126_01
open PySem PySem.W PyProof.Rows PySem.Calls
set_option Elab.async false
set_option maxRecDepth 100000
set_option maxHeartbeats 8000000
set_option linter.unusedVariables false
set_option linter.unusedSimpArgs false
namespace Mine
open_top hd for PySem.Challenge.rw_ok0126_01
abbrev Led := List (Addr × Obj)

def Ct (w : World) (mean : ExcName → Option Value) (mg mb : Str → Option Value) (f : Addr) (d : Nat) (news : Led) (vs : List Value) (post : Value → Led → Prop) : Prop :=
  ∀ (dp un : Nat) (gd : Option (List Code)) (cn : Str) (cs : Scope) (a : Addr) (ccd : Value) (cl : List (Str × Addr)) (outer : List Env) (A₀ : Around) (base h₀ : Heap) (L : Addr) (m : Str → Option Value) (s : Shared) (Q E : Value → Shared → Prop),
    Below A₀ base outer h₀ → Fr h₀ L s.heap m → (hd.heap_39 w.params).In h₀ → News h₀ L s.heap news → Top hd.view_39 (looseW hd.view_39 []) mean mg mb h₀ → cs.kind = .function → dp + d < recursionLimit → un + 8 * d < cLine →
    (∀ r news' h' tk', Fr h₀ L h' m → News h₀ L h' news' → post r news' → Q r { s with heap := h', toks := tk' }) →
    wpAny (model PySem.Challenge.rw_ok0126_01.row.prog w) (ktrTop dp un gd cn cs L a ccd cl outer) (call (.ref f) vs) Q E s

section
variable {w : World} {mean : ExcName → Option Value} {mg mb : Str → Option Value} {f : Addr} {d : Nat} {news : Led} {vs : List Value} {post : Value → Led → Prop}
theorem Ct.use {dp un : Nat} {gd : Option (List Code)} {cn : Str} {cs : Scope} {a : Addr} {ccd : Value} {cl : List (Str × Addr)} {outer : List Env} {A₀ : Around} {base h₀ : Heap} {L : Addr} {m : Str → Option Value} {s : Shared} {Q E : Value → Shared → Prop}
    (B : Below A₀ base outer h₀) (F : Fr h₀ L s.heap m) (X : (hd.heap_39 w.params).In h₀) (N : News h₀ L s.heap news) (T : Top hd.view_39 (looseW hd.view_39 []) mean mg mb h₀) (hk : cs.kind = .function)
    (C : Ct w mean mg mb f d news vs post) (hd : dp + d < recursionLimit) (hu : un + 8 * d < cLine)
    (ret : ∀ r news' h' tk', Fr h₀ L h' m → News h₀ L h' news' → post r news' → Q r { s with heap := h', toks := tk' }) :
    wpAny (model PySem.Challenge.rw_ok0126_01.row.prog w) (ktrTop dp un gd cn cs L a ccd cl outer) (call (.ref f) vs) Q E s := C dp un gd cn cs a ccd cl outer A₀ base h₀ L m s Q E B F X N T hk hd hu ret
end

theorem fdiv2 (x : Int) : x.fdiv 2 = x / 2 := Int.fdiv_eq_ediv_of_nonneg x (by decide)
theorem fmod_rng (z : Int) (k : Int) (hk : 0 < k) : 0 ≤ z.fmod k ∧ z.fmod k < k := ⟨Int.fmod_nonneg_of_pos z hk, Int.fmod_lt_of_pos z hk⟩
theorem fdiv_nonneg {a b : Int} (ha : 0 ≤ a) (hb : 0 < b) : 0 ≤ a.fdiv b := by
  rw [Int.fdiv_eq_ediv_of_nonneg a (Int.le_of_lt hb)]
  exact Int.ediv_nonneg ha (Int.le_of_lt hb)
theorem all_ne_lt {l : Led} {d : Addr} (h : ∀ p ∈ l, p.1 < d) : ∀ p ∈ l, p.1 ≠ d := fun p hp => Nat.ne_of_lt (h p hp)
theorem all_ne_lt' {l : Led} {d e : Addr} (h : ∀ p ∈ l, p.1 < d) (hd : @LE.le Nat _ d e) : ∀ p ∈ l, p.1 ≠ e := fun p hp => Nat.ne_of_lt (Nat.lt_of_lt_of_le (h p hp) hd)
theorem all_ne_gt {l : Led} {d : Addr} (h : ∀ p ∈ l, d < p.1) : ∀ p ∈ l, p.1 ≠ d := fun p hp => Nat.ne_of_gt (h p hp)

/-- the pieces that cover so many -/
def cdiv (x y : Int) : Int := (x + y - 1) / y
/-- both readings of the fit -/
def fits (size before : Int) (b : Bool) : Bool := if b then decide (before = (size + 1) / 2) else decide (before = size)
def PenOk (a b : Int) : Prop := 0 ≤ a ∧ 0 ≤ b ∧ b < 1000000000000

def Blk (P : Prop) : Prop := P
theorem Blk.out {P : Prop} (h : Blk P) : P := h
theorem Blk.mk {P : Prop} (h : P) : Blk P := h
theorem mem_app {α : Type} {x : α} {a b : List α} (h : List.Mem x b) : List.Mem x (a ++ b) := List.mem_append_right a h

local macro_rules | `(tactic| k_all) => `(tactic| first | assumption | exact all_ne_lt (by assumption) | exact all_ne_gt (by assumption) | exact all_ne_lt' (by assumption) (by omega))
local macro_rules | `(tactic| k_mem) => `(tactic| assumption)
local macro_rules | `(tactic| walk_at "call ref") => `(tactic| k_extra "call ref")
local macro_rules | `(tactic| walk_at "call builtin:len") => `(tactic| k_extra "call builtin:len")
local macro_rules | `(tactic| walk_at "pyIter ref") => `(tactic| k_extra "pyIter ref")
local macro_rules | `(tactic| walk_at "exec Raise some none") => `(tactic| k_extra "exec Raise some none")
local macro_rules | `(tactic| walk_at "leaving ref") => `(tactic| k_extra "leaving ref")
local macro_rules | `(tactic| walk_at "CompSrc") => `(tactic| k_extra "CompSrc")
local macro_rules | `(tactic| k_mem) => `(tactic| ((first | with_reducible refine mem_app ?_ | with_reducible refine List.mem_append_right _ ?_); k_mem))
local macro_rules | `(tactic| walk_at "CompSrcT") => `(tactic| k_extra "CompSrcT")
local macro_rules | `(tactic| walk_at "call type:zip") => `(tactic| k_extra "call type:zip")
local macro_rules | `(tactic| walk_at "compareOp Eq ref ref") => `(tactic| k_extra "compareOp Eq ref ref")
local macro_rules | `(tactic| walk_at "eval ListComp") => `(tactic| k_extra "eval ListComp")
local macro_rules | `(tactic| walk_at "exec Assign cons ListComp") => `(tactic| k_extra "exec Assign cons ListComp")
local macro_rules | `(tactic| k_ne) => `(tactic| with_reducible assumption)

section
variable {w : World} {mean : ExcName → Option Value} {mg mb : Str → Option Value} {news : Led}

theorem parts_ct (x y : Int) (tx ty : Tok) (hy : 0 < y) (hy2 : y < 1000) : Ct w mean mg mb 74 1 news [.int x tx, .int y ty] (fun r n' => (∃ t, r = .int (cdiv x y) t) ∧ n' = news) := by
  (( k_with_none; (k_with "eval ListComp" => (first | (k_here; lct_look; k_dflt (refine LCt.ListComp_T (F₀ := by k_asm) (by with_unfolding_all rfl) (by decide) (by rfl) (by decide) (by rfl) ?_)) | (k_here; (fail_if_success lct_look); k_dflt (refine LCg.ListComp_U (F₀ := by k_asm) (by with_unfolding_all rfl) (by decide) (by rfl) (by decide) (by rfl) ?_)))); (k_with "exec Assign cons ListComp" => (first | (k_here; lct_look; k_dflt (refine LCt.Assign_ListComp_T (F₀ := by k_asm) (by rfl) (by with_unfolding_all rfl) (by with_unfolding_all rfl) (by decide) (by rfl) (by decide) (by rfl) (by rfl) (by rfl) ?_)) | (k_here; (fail_if_success lct_look); k_dflt (refine LCg.Assign_ListComp_U (F₀ := by k_asm) (by rfl) (by with_unfolding_all rfl) (by with_unfolding_all rfl) (by decide) (by rfl) (by decide) (by rfl) (by rfl) (by rfl) ?_)))); unfold Ct; k_fill; intro dp un gd cn cs a ccd cl outer A₀ base h₀ L m s Q E B F X N T hk hdp hun hret); refine wpAny_call ?_)
  (k_dflt (first | (refine' code_def ?k1 ?k2 ?k3 ?k4 ?k5 ?kA ?kF ?kK ?k6 ?k7 ?k8 ?k9 ?kB ?_ ?c2 ?c3 ?c4 ?c5; (case kA => exact rfl); (case kF => exact rfl); (case kK => first | exact rfl | assumption); (case k1 => k_asm); (case k2 => k_asm); (case k3 => k_asm); (case k4 => k_asm); (case k5 => k_asm); (case k6 => k_is); (case k7 => k_is); (case k8 => ktr_room); (case k9 => exact BindsTo.of_eq rfl); (case c5 => decide); (case kB => exact locs rfl); (case c2 => exact rfl); (case c3 => exact rfl); (case c4 => exact rfl); k_whole; intro qqg' qqL' qqh' qqFG' qqF' qqN' qqB' qqX' qqT'; (try dsimp only); (try k_lift qqB'); (try k_fold)) | (refine' code_defC ?k1 ?k2 ?k3 ?k4 ?k5 ?kA ?kF ?kK ?k6 ?k7 ?k8 ?k9 ?kB ?kD ?_ ?c2 ?c3 ?c4; (case kA => exact rfl); (case kF => exact rfl); (case kK => first | exact rfl | assumption); (case k1 => k_asm); (case k2 => k_asm); (case k3 => k_asm); (case k4 => k_asm); (case k5 => k_asm); (case k6 => k_is); (case k7 => k_is); (case k8 => ktr_room); (case k9 => exact BindsTo.of_eq rfl); (case kB => exact rfl); (case kD => decide +kernel); (case c2 => exact rfl); (case c3 => exact rfl); (case c4 => exact rfl); k_whole; intro qqg' qqL' qqh' qqtk' qqcells' qqFG' qqF' qqN' qqY' qqB' qqX' qqT' qql1; (try k_lt qql1); k_cells qqY'; (try simp only [List.cons_append, List.nil_append] at qqN'); (try dsimp only); (try k_lift qqB'); (try k_fold))); k_steps)
  exact hret _ _ _ _ (by k_asm) (by k_asm) ⟨⟨_, by rw [cdiv, ← Int.fdiv_eq_ediv_of_nonneg _ (Int.le_of_lt hy)]⟩, rfl⟩

theorem grows_ct (x y : Int) (tx ty : Tok) (b : Bool) : Ct w mean mg mb 60 1 news [.int x tx, .int y ty, .bool b] (fun r n' => r = .bool (fits x y b) ∧ n' = news) := by
  (( k_with_none; (k_with "eval ListComp" => (first | (k_here; lct_look; k_dflt (refine LCt.ListComp_T (F₀ := by k_asm) (by with_unfolding_all rfl) (by decide) (by rfl) (by decide) (by rfl) ?_)) | (k_here; (fail_if_success lct_look); k_dflt (refine LCg.ListComp_U (F₀ := by k_asm) (by with_unfolding_all rfl) (by decide) (by rfl) (by decide) (by rfl) ?_)))); (k_with "exec Assign cons ListComp" => (first | (k_here; lct_look; k_dflt (refine LCt.Assign_ListComp_T (F₀ := by k_asm) (by rfl) (by with_unfolding_all rfl) (by with_unfolding_all rfl) (by decide) (by rfl) (by decide) (by rfl) (by rfl) (by rfl) ?_)) | (k_here; (fail_if_success lct_look); k_dflt (refine LCg.Assign_ListComp_U (F₀ := by k_asm) (by rfl) (by with_unfolding_all rfl) (by with_unfolding_all rfl) (by decide) (by rfl) (by decide) (by rfl) (by rfl) (by rfl) ?_)))); unfold Ct; k_fill; intro dp un gd cn cs a ccd cl outer A₀ base h₀ L m s Q E B F X N T hk hdp hun hret); refine wpAny_call ?_)
  (k_dflt (first | (refine' code_def ?k1 ?k2 ?k3 ?k4 ?k5 ?kA ?kF ?kK ?k6 ?k7 ?k8 ?k9 ?kB ?_ ?c2 ?c3 ?c4 ?c5; (case kA => exact rfl); (case kF => exact rfl); (case kK => first | exact rfl | assumption); (case k1 => k_asm); (case k2 => k_asm); (case k3 => k_asm); (case k4 => k_asm); (case k5 => k_asm); (case k6 => k_is); (case k7 => k_is); (case k8 => ktr_room); (case k9 => exact BindsTo.of_eq rfl); (case c5 => decide); (case kB => exact locs rfl); (case c2 => exact rfl); (case c3 => exact rfl); (case c4 => exact rfl); k_whole; intro qqg' qqL' qqh' qqFG' qqF' qqN' qqB' qqX' qqT'; (try dsimp only); (try k_lift qqB'); (try k_fold)) | (refine' code_defC ?k1 ?k2 ?k3 ?k4 ?k5 ?kA ?kF ?kK ?k6 ?k7 ?k8 ?k9 ?kB ?kD ?_ ?c2 ?c3 ?c4; (case kA => exact rfl); (case kF => exact rfl); (case kK => first | exact rfl | assumption); (case k1 => k_asm); (case k2 => k_asm); (case k3 => k_asm); (case k4 => k_asm); (case k5 => k_asm); (case k6 => k_is); (case k7 => k_is); (case k8 => ktr_room); (case k9 => exact BindsTo.of_eq rfl); (case kB => exact rfl); (case kD => decide +kernel); (case c2 => exact rfl); (case c3 => exact rfl); (case c4 => exact rfl); k_whole; intro qqg' qqL' qqh' qqtk' qqcells' qqFG' qqF' qqN' qqY' qqB' qqX' qqT' qql1; (try k_lt qql1); k_cells qqY'; (try simp only [List.cons_append, List.nil_append] at qqN'); (try dsimp only); (try k_lift qqB'); (try k_fold))); k_steps)
  all_goals
    refine hret _ news _ _ (by k_asm) (by (first | k_asm | exact cb_drop (by assumption) (by kcj_all))) ⟨?_, rfl⟩
    congr 1
    rw [Bool.eq_iff_iff]
    simp_all [fits, fdiv2]
theorem fits_ct (x y : Int) (tx ty : Tok) (b : Bool) : Ct w mean mg mb 194 1 news [.int x tx, .int y ty, .bool b] (fun r n' => r = .bool (fits x y b) ∧ n' = news) := by
  (( k_with_none; (k_with "eval ListComp" => (first | (k_here; lct_look; k_dflt (refine LCt.ListComp_T (F₀ := by k_asm) (by with_unfolding_all rfl) (by decide) (by rfl) (by decide) (by rfl) ?_)) | (k_here; (fail_if_success lct_look); k_dflt (refine LCg.ListComp_U (F₀ := by k_asm) (by with_unfolding_all rfl) (by decide) (by rfl) (by decide) (by rfl) ?_)))); (k_with "exec Assign cons ListComp" => (first | (k_here; lct_look; k_dflt (refine LCt.Assign_ListComp_T (F₀ := by k_asm) (by rfl) (by with_unfolding_all rfl) (by with_unfolding_all rfl) (by decide) (by rfl) (by decide) (by rfl) (by rfl) (by rfl) ?_)) | (k_here; (fail_if_success lct_look); k_dflt (refine LCg.Assign_ListComp_U (F₀ := by k_asm) (by rfl) (by with_unfolding_all rfl) (by with_unfolding_all rfl) (by decide) (by rfl) (by decide) (by rfl) (by rfl) (by rfl) ?_)))); unfold Ct; k_fill; intro dp un gd cn cs a ccd cl outer A₀ base h₀ L m s Q E B F X N T hk hdp hun hret); refine wpAny_call ?_)
  (k_dflt (first | (refine' code_def ?k1 ?k2 ?k3 ?k4 ?k5 ?kA ?kF ?kK ?k6 ?k7 ?k8 ?k9 ?kB ?_ ?c2 ?c3 ?c4 ?c5; (case kA => exact rfl); (case kF => exact rfl); (case kK => first | exact rfl | assumption); (case k1 => k_asm); (case k2 => k_asm); (case k3 => k_asm); (case k4 => k_asm); (case k5 => k_asm); (case k6 => k_is); (case k7 => k_is); (case k8 => ktr_room); (case k9 => exact BindsTo.of_eq rfl); (case c5 => decide); (case kB => exact locs rfl); (case c2 => exact rfl); (case c3 => exact rfl); (case c4 => exact rfl); k_whole; intro qqg' qqL' qqh' qqFG' qqF' qqN' qqB' qqX' qqT'; (try dsimp only); (try k_lift qqB'); (try k_fold)) | (refine' code_defC ?k1 ?k2 ?k3 ?k4 ?k5 ?kA ?kF ?kK ?k6 ?k7 ?k8 ?k9 ?kB ?kD ?_ ?c2 ?c3 ?c4; (case kA => exact rfl); (case kF => exact rfl); (case kK => first | exact rfl | assumption); (case k1 => k_asm); (case k2 => k_asm); (case k3 => k_asm); (case k4 => k_asm); (case k5 => k_asm); (case k6 => k_is); (case k7 => k_is); (case k8 => ktr_room); (case k9 => exact BindsTo.of_eq rfl); (case kB => exact rfl); (case kD => decide +kernel); (case c2 => exact rfl); (case c3 => exact rfl); (case c4 => exact rfl); k_whole; intro qqg' qqL' qqh' qqtk' qqcells' qqFG' qqF' qqN' qqY' qqB' qqX' qqT' qql1; (try k_lt qql1); k_cells qqY'; (try simp only [List.cons_append, List.nil_append] at qqN'); (try dsimp only); (try k_lift qqB'); (try k_fold))); k_steps)
  all_goals
    refine hret _ news _ _ (by k_asm) (by (first | k_asm | exact cb_drop (by assumption) (by kcj_all))) ⟨?_, rfl⟩
    congr 1
    rw [Bool.eq_iff_iff]
    simp_all [fits, fdiv2] <;> omega

theorem part_ct (x o m : Int) (tx ta tb : Tok) (hx : 0 ≤ x) (hx2 : x < 1000) (ho : o = 1 ∨ o = 2) (hm : m = 1 ∨ m = 2) : Ct w mean mg mb 182 1 news [.int x tx, .int o ta, .int m tb] (fun r n' => (∃ t, r = .int (cdiv (x * o) m) t) ∧ n' = news) := by
  have hxo : 0 ≤ x * o := Int.mul_nonneg hx (by omega)
  have ho0 : 0 ≤ o ∧ o < 3 := by omega
  clear ho
  rcases hm with rfl | rfl
  · (( k_with_none; (k_with "eval ListComp" => (first | (k_here; lct_look; k_dflt (refine LCt.ListComp_T (F₀ := by k_asm) (by with_unfolding_all rfl) (by decide) (by rfl) (by decide) (by rfl) ?_)) | (k_here; (fail_if_success lct_look); k_dflt (refine LCg.ListComp_U (F₀ := by k_asm) (by with_unfolding_all rfl) (by decide) (by rfl) (by decide) (by rfl) ?_)))); (k_with "exec Assign cons ListComp" => (first | (k_here; lct_look; k_dflt (refine LCt.Assign_ListComp_T (F₀ := by k_asm) (by rfl) (by with_unfolding_all rfl) (by with_unfolding_all rfl) (by decide) (by rfl) (by decide) (by rfl) (by rfl) (by rfl) ?_)) | (k_here; (fail_if_success lct_look); k_dflt (refine LCg.Assign_ListComp_U (F₀ := by k_asm) (by rfl) (by with_unfolding_all rfl) (by with_unfolding_all rfl) (by decide) (by rfl) (by decide) (by rfl) (by rfl) (by rfl) ?_)))); unfold Ct; k_fill; intro dp un gd cn cs a ccd cl outer A₀ base h₀ L m s Q E B F X N T hk hdp hun hret); refine wpAny_call ?_)
    k_with "exec While Compare cons nil" => k_while (fun _ f => 0 ≤ f ∧ (f = 0 ∨ (f - 1) * 1 < x * o)) (fun _ f => (x * o - f * 1).toNat) "found"
    (k_dflt (first | (refine' code_def ?k1 ?k2 ?k3 ?k4 ?k5 ?kA ?kF ?kK ?k6 ?k7 ?k8 ?k9 ?kB ?_ ?c2 ?c3 ?c4 ?c5; (case kA => exact rfl); (case kF => exact rfl); (case kK => first | exact rfl | assumption); (case k1 => k_asm); (case k2 => k_asm); (case k3 => k_asm); (case k4 => k_asm); (case k5 => k_asm); (case k6 => k_is); (case k7 => k_is); (case k8 => ktr_room); (case k9 => exact BindsTo.of_eq rfl); (case c5 => decide); (case kB => exact locs rfl); (case c2 => exact rfl); (case c3 => exact rfl); (case c4 => exact rfl); k_whole; intro qqg' qqL' qqh' qqFG' qqF' qqN' qqB' qqX' qqT'; (try dsimp only); (try k_lift qqB'); (try k_fold)) | (refine' code_defC ?k1 ?k2 ?k3 ?k4 ?k5 ?kA ?kF ?kK ?k6 ?k7 ?k8 ?k9 ?kB ?kD ?_ ?c2 ?c3 ?c4; (case kA => exact rfl); (case kF => exact rfl); (case kK => first | exact rfl | assumption); (case k1 => k_asm); (case k2 => k_asm); (case k3 => k_asm); (case k4 => k_asm); (case k5 => k_asm); (case k6 => k_is); (case k7 => k_is); (case k8 => ktr_room); (case k9 => exact BindsTo.of_eq rfl); (case kB => exact rfl); (case kD => decide +kernel); (case c2 => exact rfl); (case c3 => exact rfl); (case c4 => exact rfl); k_whole; intro qqg' qqL' qqh' qqtk' qqcells' qqFG' qqF' qqN' qqY' qqB' qqX' qqT' qql1; (try k_lt qql1); k_cells qqY'; (try simp only [List.cons_append, List.nil_append] at qqN'); (try dsimp only); (try k_lift qqB'); (try k_fold))); k_steps)
    exact hret _ _ _ _ (by k_asm) (by k_asm) ⟨⟨_, by congr 1; unfold cdiv; omega⟩, rfl⟩
  · (( k_with_none; (k_with "eval ListComp" => (first | (k_here; lct_look; k_dflt (refine LCt.ListComp_T (F₀ := by k_asm) (by with_unfolding_all rfl) (by decide) (by rfl) (by decide) (by rfl) ?_)) | (k_here; (fail_if_success lct_look); k_dflt (refine LCg.ListComp_U (F₀ := by k_asm) (by with_unfolding_all rfl) (by decide) (by rfl) (by decide) (by rfl) ?_)))); (k_with "exec Assign cons ListComp" => (first | (k_here; lct_look; k_dflt (refine LCt.Assign_ListComp_T (F₀ := by k_asm) (by rfl) (by with_unfolding_all rfl) (by with_unfolding_all rfl) (by decide) (by rfl) (by decide) (by rfl) (by rfl) (by rfl) ?_)) | (k_here; (fail_if_success lct_look); k_dflt (refine LCg.Assign_ListComp_U (F₀ := by k_asm) (by rfl) (by with_unfolding_all rfl) (by with_unfolding_all rfl) (by decide) (by rfl) (by decide) (by rfl) (by rfl) (by rfl) ?_)))); unfold Ct; k_fill; intro dp un gd cn cs a ccd cl outer A₀ base h₀ L m s Q E B F X N T hk hdp hun hret); refine wpAny_call ?_)
    k_with "exec While Compare cons nil" => k_while (fun _ f => 0 ≤ f ∧ (f = 0 ∨ (f - 1) * 2 < x * o)) (fun _ f => (x * o - f * 2).toNat) "found"
    (k_dflt (first | (refine' code_def ?k1 ?k2 ?k3 ?k4 ?k5 ?kA ?kF ?kK ?k6 ?k7 ?k8 ?k9 ?kB ?_ ?c2 ?c3 ?c4 ?c5; (case kA => exact rfl); (case kF => exact rfl); (case kK => first | exact rfl | assumption); (case k1 => k_asm); (case k2 => k_asm); (case k3 => k_asm); (case k4 => k_asm); (case k5 => k_asm); (case k6 => k_is); (case k7 => k_is); (case k8 => ktr_room); (case k9 => exact BindsTo.of_eq rfl); (case c5 => decide); (case kB => exact locs rfl); (case c2 => exact rfl); (case c3 => exact rfl); (case c4 => exact rfl); k_whole; intro qqg' qqL' qqh' qqFG' qqF' qqN' qqB' qqX' qqT'; (try dsimp only); (try k_lift qqB'); (try k_fold)) | (refine' code_defC ?k1 ?k2 ?k3 ?k4 ?k5 ?kA ?kF ?kK ?k6 ?k7 ?k8 ?k9 ?kB ?kD ?_ ?c2 ?c3 ?c4; (case kA => exact rfl); (case kF => exact rfl); (case kK => first | exact rfl | assumption); (case k1 => k_asm); (case k2 => k_asm); (case k3 => k_asm); (case k4 => k_asm); (case k5 => k_asm); (case k6 => k_is); (case k7 => k_is); (case k8 => ktr_room); (case k9 => exact BindsTo.of_eq rfl); (case kB => exact rfl); (case kD => decide +kernel); (case c2 => exact rfl); (case c3 => exact rfl); (case c4 => exact rfl); k_whole; intro qqg' qqL' qqh' qqtk' qqcells' qqFG' qqF' qqN' qqY' qqB' qqX' qqT' qql1; (try k_lt qql1); k_cells qqY'; (try simp only [List.cons_append, List.nil_append] at qqN'); (try dsimp only); (try k_lift qqB'); (try k_fold))); k_steps)
    exact hret _ _ _ _ (by k_asm) (by k_asm) ⟨⟨_, by congr 1; unfold cdiv; omega⟩, rfl⟩
end

theorem pen_mul (u z : Int) : IntMulOk ([u, Int.fmod z 2147483647].getD (Int.toNat 1) 0) ([u, Int.fmod z 2147483647].getD (Int.toNat 1) 0) := by
  have h := fmod_rng z 2147483647 (by decide)
  show IntMulOk (Int.fmod z 2147483647) (Int.fmod z 2147483647)
  exact IntMulOk.of_left (intBits_le_64 (by omega) (by omega))
section
variable {w : World} {mean : ExcName → Option Value} {mg mb : Str → Option Value} {news : Led}
local macro_rules | `(tactic| walk_at "binaryOp Mult int int") => `(tactic| (k_here; with_reducible refine mul_int ?_ (pen_mul _ _)))
local macro_rules | `(tactic| k_all) => `(tactic| first | assumption | exact all_ne_lt (by assumption) | exact all_ne_gt (by assumption))
theorem digit_ct (p : Addr) (x y many : Int) (tx ty tm : Tok) (n : Nat) (hm : 2 ≤ many) (hm2 : many ≤ 9) (hp : PenOk x y) (hr : ∀ q ∈ news, q.1 ≠ p) :
   Ct w mean mg mb 175 1 ((p, listOf #[.int x tx, .int y ty] n) :: news) [.ref p, .int many tm] (fun r n' => ∃ d t x' tx' y' ty' k, r = .int d t ∧ 0 ≤ d ∧ d < many ∧ PenOk x' y' ∧ n' = (p, listOf #[.int x' tx', .int y' ty'] k) :: news) := by
  obtain ⟨hx, hy, hy2⟩ := hp
  (( k_with_none; (k_with "eval ListComp" => (first | (k_here; lct_look; k_dflt (refine LCt.ListComp_T (F₀ := by k_asm) (by with_unfolding_all rfl) (by decide) (by rfl) (by decide) (by rfl) ?_)) | (k_here; (fail_if_success lct_look); k_dflt (refine LCg.ListComp_U (F₀ := by k_asm) (by with_unfolding_all rfl) (by decide) (by rfl) (by decide) (by rfl) ?_)))); (k_with "exec Assign cons ListComp" => (first | (k_here; lct_look; k_dflt (refine LCt.Assign_ListComp_T (F₀ := by k_asm) (by rfl) (by with_unfolding_all rfl) (by with_unfolding_all rfl) (by decide) (by rfl) (by decide) (by rfl) (by rfl) (by rfl) ?_)) | (k_here; (fail_if_success lct_look); k_dflt (refine LCg.Assign_ListComp_U (F₀ := by k_asm) (by rfl) (by with_unfolding_all rfl) (by with_unfolding_all rfl) (by decide) (by rfl) (by decide) (by rfl) (by rfl) (by rfl) ?_)))); unfold Ct; k_fill; intro dp un gd cn cs a ccd cl outer A₀ base h₀ L m s Q E B F X N T hk hdp hun hret); refine wpAny_call ?_)
  (k_dflt (first | (refine' code_def ?k1 ?k2 ?k3 ?k4 ?k5 ?kA ?kF ?kK ?k6 ?k7 ?k8 ?k9 ?kB ?_ ?c2 ?c3 ?c4 ?c5; (case kA => exact rfl); (case kF => exact rfl); (case kK => first | exact rfl | assumption); (case k1 => k_asm); (case k2 => k_asm); (case k3 => k_asm); (case k4 => k_asm); (case k5 => k_asm); (case k6 => k_is); (case k7 => k_is); (case k8 => ktr_room); (case k9 => exact BindsTo.of_eq rfl); (case c5 => decide); (case kB => exact locs rfl); (case c2 => exact rfl); (case c3 => exact rfl); (case c4 => exact rfl); k_whole; intro qqg' qqL' qqh' qqFG' qqF' qqN' qqB' qqX' qqT'; (try dsimp only); (try k_lift qqB'); (try k_fold)) | (refine' code_defC ?k1 ?k2 ?k3 ?k4 ?k5 ?kA ?kF ?kK ?k6 ?k7 ?k8 ?k9 ?kB ?kD ?_ ?c2 ?c3 ?c4; (case kA => exact rfl); (case kF => exact rfl); (case kK => first | exact rfl | assumption); (case k1 => k_asm); (case k2 => k_asm); (case k3 => k_asm); (case k4 => k_asm); (case k5 => k_asm); (case k6 => k_is); (case k7 => k_is); (case k8 => ktr_room); (case k9 => exact BindsTo.of_eq rfl); (case kB => exact rfl); (case kD => decide +kernel); (case c2 => exact rfl); (case c3 => exact rfl); (case c4 => exact rfl); k_whole; intro qqg' qqL' qqh' qqtk' qqcells' qqFG' qqF' qqN' qqY' qqB' qqX' qqT' qql1; (try k_lt qql1); k_cells qqY'; (try simp only [List.cons_append, List.nil_append] at qqN'); (try dsimp only); (try k_lift qqB'); (try k_fold))); k_steps)
  · refine hret _ _ _ _ (by k_asm) (by k_asm) ⟨_, _, _, _, _, _, _, rfl, (fmod_rng _ _ (by omega)).1, (fmod_rng _ _ (by omega)).2, ?_, rfl⟩
    exact ⟨fdiv_nonneg hx (by omega), hy, hy2⟩
  · refine hret _ _ _ _ (by k_asm) (by k_asm) ⟨_, _, _, _, _, _, _, rfl, (fmod_rng _ _ (by omega)).1, (fmod_rng _ _ (by omega)).2, ?_, rfl⟩
    exact ⟨hx, (fmod_rng _ _ (by decide)).1, Int.lt_trans (fmod_rng _ 2147483647 (by decide)).2 (by decide)⟩
end

abbrev ent (w : World) (x : Str) (k : Tok) (v : Value) : DictEntry := ⟨PyData.keyHash w.params x, .str x k, v⟩
abbrev compD (w : World) (k1 k2 k3 k4 : Tok) (i a d q : Value) : Obj := dictOf [ent w "ident" k1 i, ent w "across" k2 a, ent w "down" k3 d, ent w "quant" k4 q] 4
abbrev frameD (w : World) (k1 k2 k3 k4 k5 k6 : Tok) (ki pr h wd co n : Value) : Obj := dictOf [ent w "kind" k1 ki, ent w "precision" k2 pr, ent w "height" k3 h, ent w "width" k4 wd, ent w "components" k5 co, ent w "n" k6 n] 6
section
variable {w : World} {mean : ExcName → Option Value} {mg mb : Str → Option Value} {news : Led}
theorem comp_ct (vi va vd vq : Value) : Ct w mean mg mb 91 2 news [vi, va, vd, vq] (fun r n' => ∃ c dc k1 k2 k3 k4, r = .ref c ∧ n' = (c, instObj 91 dc) :: (dc, compD w k1 k2 k3 k4 vi va vd vq) :: news ∧ (∀ p ∈ news, p.1 < dc) ∧ @LT.lt Nat _ dc c) := by
  ( k_with_none; (k_with "eval ListComp" => (first | (k_here; lct_look; k_dflt (refine LCt.ListComp_T (F₀ := by k_asm) (by with_unfolding_all rfl) (by decide) (by rfl) (by decide) (by rfl) ?_)) | (k_here; (fail_if_success lct_look); k_dflt (refine LCg.ListComp_U (F₀ := by k_asm) (by with_unfolding_all rfl) (by decide) (by rfl) (by decide) (by rfl) ?_)))); (k_with "exec Assign cons ListComp" => (first | (k_here; lct_look; k_dflt (refine LCt.Assign_ListComp_T (F₀ := by k_asm) (by rfl) (by with_unfolding_all rfl) (by with_unfolding_all rfl) (by decide) (by rfl) (by decide) (by rfl) (by rfl) (by rfl) ?_)) | (k_here; (fail_if_success lct_look); k_dflt (refine LCg.Assign_ListComp_U (F₀ := by k_asm) (by rfl) (by with_unfolding_all rfl) (by with_unfolding_all rfl) (by decide) (by rfl) (by decide) (by rfl) (by rfl) (by rfl) ?_)))); unfold Ct; k_fill; intro dp un gd cn cs a ccd cl outer A₀ base h₀ L m s Q E B F X N T hk hdp hun hret)
  k_dflt (refine' call_cls ?k1 ?k2 ?k3 ?k4 ?k5 ?k6 ?_; (case k1 => k_asm); (case k2 => k_asm); (case k3 => k_asm); (case k4 => k_is); (case k5 => k_is); (case k6 => k_is); k_whole; intro qqx' qqd' qqh' qqF' qqN' qql1 qql2; (try k_lt qql1); (try k_lt2 qql2); (try k_sweep); (first | (refine' code_def ?k1 ?k2 ?k3 ?k4 ?k5 ?kA ?kF ?kK ?k6 ?k7 ?k8 ?k9 ?kB ?_ ?c2 ?c3 ?c4 ?c5; (case kA => exact rfl); (case kF => exact rfl); (case kK => first | exact rfl | assumption); (case k1 => k_asm); (case k2 => k_asm); (case k3 => k_asm); (case k4 => k_asm); (case k5 => k_asm); (case k6 => k_is); (case k7 => k_is); (case k8 => ktr_room); (case k9 => exact BindsTo.of_eq rfl); (case c5 => decide); (case kB => exact locs rfl); (case c2 => exact rfl); (case c3 => exact rfl); (case c4 => exact rfl); k_whole; intro qqg' qqL' qqh' qqFG' qqF' qqN' qqB' qqX' qqT'; (try dsimp only); (try k_lift qqB'); (try k_fold)) | (refine' code_defC ?k1 ?k2 ?k3 ?k4 ?k5 ?kA ?kF ?kK ?k6 ?k7 ?k8 ?k9 ?kB ?kD ?_ ?c2 ?c3 ?c4; (case kA => exact rfl); (case kF => exact rfl); (case kK => first | exact rfl | assumption); (case k1 => k_asm); (case k2 => k_asm); (case k3 => k_asm); (case k4 => k_asm); (case k5 => k_asm); (case k6 => k_is); (case k7 => k_is); (case k8 => ktr_room); (case k9 => exact BindsTo.of_eq rfl); (case kB => exact rfl); (case kD => decide +kernel); (case c2 => exact rfl); (case c3 => exact rfl); (case c4 => exact rfl); k_whole; intro qqg' qqL' qqh' qqtk' qqcells' qqFG' qqF' qqN' qqY' qqB' qqX' qqT' qql1; (try k_lt qql1); k_cells qqY'; (try simp only [List.cons_append, List.nil_append] at qqN'); (try dsimp only); (try k_lift qqB'); (try k_fold))))
  k_steps
  refine hret _ _ _ _ (by k_asm) (by k_asm) ⟨_, _, _, _, _, _, rfl, rfl, by assumption, by assumption⟩
theorem frame_ct (ki pr h wd co n : Value) : Ct w mean mg mb 157 2 news [ki, pr, h, wd, co, n] (fun r n' => ∃ c dc k1 k2 k3 k4 k5 k6, r = .ref c ∧ n' = (c, instObj 157 dc) :: (dc, frameD w k1 k2 k3 k4 k5 k6 ki pr h wd co n) :: news ∧ (∀ p ∈ news, p.1 < dc) ∧ @LT.lt Nat _ dc c) := by
  ( k_with_none; (k_with "eval ListComp" => (first | (k_here; lct_look; k_dflt (refine LCt.ListComp_T (F₀ := by k_asm) (by with_unfolding_all rfl) (by decide) (by rfl) (by decide) (by rfl) ?_)) | (k_here; (fail_if_success lct_look); k_dflt (refine LCg.ListComp_U (F₀ := by k_asm) (by with_unfolding_all rfl) (by decide) (by rfl) (by decide) (by rfl) ?_)))); (k_with "exec Assign cons ListComp" => (first | (k_here; lct_look; k_dflt (refine LCt.Assign_ListComp_T (F₀ := by k_asm) (by rfl) (by with_unfolding_all rfl) (by with_unfolding_all rfl) (by decide) (by rfl) (by decide) (by rfl) (by rfl) (by rfl) ?_)) | (k_here; (fail_if_success lct_look); k_dflt (refine LCg.Assign_ListComp_U (F₀ := by k_asm) (by rfl) (by with_unfolding_all rfl) (by with_unfolding_all rfl) (by decide) (by rfl) (by decide) (by rfl) (by rfl) (by rfl) ?_)))); unfold Ct; k_fill; intro dp un gd cn cs a ccd cl outer A₀ base h₀ L m s Q E B F X N T hk hdp hun hret)
  k_dflt (refine' call_cls ?k1 ?k2 ?k3 ?k4 ?k5 ?k6 ?_; (case k1 => k_asm); (case k2 => k_asm); (case k3 => k_asm); (case k4 => k_is); (case k5 => k_is); (case k6 => k_is); k_whole; intro qqx' qqd' qqh' qqF' qqN' qql1 qql2; (try k_lt qql1); (try k_lt2 qql2); (try k_sweep); (first | (refine' code_def ?k1 ?k2 ?k3 ?k4 ?k5 ?kA ?kF ?kK ?k6 ?k7 ?k8 ?k9 ?kB ?_ ?c2 ?c3 ?c4 ?c5; (case kA => exact rfl); (case kF => exact rfl); (case kK => first | exact rfl | assumption); (case k1 => k_asm); (case k2 => k_asm); (case k3 => k_asm); (case k4 => k_asm); (case k5 => k_asm); (case k6 => k_is); (case k7 => k_is); (case k8 => ktr_room); (case k9 => exact BindsTo.of_eq rfl); (case c5 => decide); (case kB => exact locs rfl); (case c2 => exact rfl); (case c3 => exact rfl); (case c4 => exact rfl); k_whole; intro qqg' qqL' qqh' qqFG' qqF' qqN' qqB' qqX' qqT'; (try dsimp only); (try k_lift qqB'); (try k_fold)) | (refine' code_defC ?k1 ?k2 ?k3 ?k4 ?k5 ?kA ?kF ?kK ?k6 ?k7 ?k8 ?k9 ?kB ?kD ?_ ?c2 ?c3 ?c4; (case kA => exact rfl); (case kF => exact rfl); (case kK => first | exact rfl | assumption); (case k1 => k_asm); (case k2 => k_asm); (case k3 => k_asm); (case k4 => k_asm); (case k5 => k_asm); (case k6 => k_is); (case k7 => k_is); (case k8 => ktr_room); (case k9 => exact BindsTo.of_eq rfl); (case kB => exact rfl); (case kD => decide +kernel); (case c2 => exact rfl); (case c3 => exact rfl); (case c4 => exact rfl); k_whole; intro qqg' qqL' qqh' qqtk' qqcells' qqFG' qqF' qqN' qqY' qqB' qqX' qqT' qql1; (try k_lt qql1); k_cells qqY'; (try simp only [List.cons_append, List.nil_append] at qqN'); (try dsimp only); (try k_lift qqB'); (try k_fold))))
  k_steps
  refine hret _ _ _ _ (by k_asm) (by k_asm) ⟨_, _, _, _, _, _, _, _, rfl, rfl, by assumption, by assumption⟩
end

section
variable {prog : Program} {w : World} {A : Around} {E : Value → Shared → Prop} {s : Shared} {h₀ : Heap} {L : Addr} {m : Str → Option Value} {env : Env}
/-- a comprehension by what holds of its first turns' values and of the ledger -/
theorem compRest_inv {elt : PySem.Expr} {x : Str} {scope : Scope} {cl : List (Str × Addr)} {S : Led → Prop} {P : Nat → Value → Prop} {Fin : List Value → Led → Prop} {n : Nat} (J : Nat → List Value → Led → Prop)
    (step : ∀ i ys led v I oI C oC D m₂ h tk (E' : Value → Shared → Prop), i < n → ys.length = i → J i ys led → P i v → LCg.NsObj oC m₂ → m₂ x = some v → Fr h₀ L h m → News h₀ L h ((I, oI) :: (C, oC) :: (D, LCg.lst ys) :: led) →
      LCg.Off3 I C D led → ((@Ne Nat I C) ∧ (@Ne Nat I D) ∧ (@Ne Nat C D)) →
      wpAny (model prog w) A (eval elt (compEnvC scope cl C env)) (LCg.CompEnd h₀ L m { s with heap := h, toks := tk } I oI C oC D (LCg.lst ys) S (fun y led' => J (i + 1) (ys ++ [y]) led')) E' { s with heap := h, toks := tk })
    (fin : ∀ ys led, ys.length = n → J n ys led → Fin ys led) :
    ∀ k i ys led, i + k = n → ys.length = i → J i ys led → LCg.CompRest prog w A h₀ L m env elt x scope cl s S P Fin k i ys led := by
  intro k
  induction k with
  | zero =>
    intro i ys led hn hl hj
    have hi : i = n := hn
    subst hi
    exact LCg.CompRest.zero (fin ys led hl hj)
  | succ k ih =>
    intro i ys led hn hl hj
    refine LCg.CompRest.succ fun v I oI C oC D m₂ h tk E' hP hC hx F N off ne => ?_
    refine wpAny_mono (step i ys led v I oI C oC D m₂ h tk E' (by omega) hl hj hP hC hx F N off ne) (fun y s₂ he => ?_) fun _ _ e => e
    obtain ⟨h', tk', led', e, F', N', off', hS, hj'⟩ := he
    exact ⟨h', tk', led', e, F', N', off', hS, ih (i + 1) (ys ++ [y]) led' (by omega) (by rw [List.length_append, hl]; rfl) hj'⟩
end

/-- two lists side by side -/
def Lk {α β : Type} (R : α → β → Prop) (vs : List α) (xs : List β) : Prop := vs.length = xs.length ∧ ∀ (i : Nat) v x, vs[i]? = some v → xs[i]? = some x → R v x
theorem Lk.nil {α β : Type} {R : α → β → Prop} : Lk R [] [] := ⟨rfl, fun i v x h => by simp at h⟩
theorem Lk.snoc {α β : Type} {R : α → β → Prop} {vs : List α} {xs : List β} {v : α} {x : β} (h : Lk R vs xs) (hr : R v x) : Lk R (vs ++ [v]) (xs ++ [x]) := by
  refine ⟨by simp [h.1], fun i v' x' h1 h2 => ?_⟩
  by_cases hi : i < vs.length
  · rw [List.getElem?_append_left hi] at h1
    rw [List.getElem?_append_left (h.1 ▸ hi)] at h2
    exact h.2 i v' x' h1 h2
  · rw [List.getElem?_append_right (Nat.not_lt.mp hi)] at h1
    rw [List.getElem?_append_right (h.1 ▸ Nat.not_lt.mp hi)] at h2
    have e1 := List.mem_of_getElem? h1
    have e2 := List.mem_of_getElem? h2
    rw [List.mem_singleton.mp e1, List.mem_singleton.mp e2]
    exact hr
theorem Lk.mono {α β : Type} {R R' : α → β → Prop} {vs : List α} {xs : List β} (h : Lk R vs xs) (k : ∀ v x, R v x → R' v x) : Lk R' vs xs := ⟨h.1, fun i v x a b => k v x (h.2 i v x a b)⟩
theorem Lk.get {α β : Type} {R : α → β → Prop} {vs : List α} {xs : List β} (h : Lk R vs xs) {i : Nat} {v : α} (hv : vs[i]? = some v) : ∃ x, xs[i]? = some x ∧ R v x := by
  have hi : i < vs.length := by
    rcases Nat.lt_or_ge i vs.length with q | q
    · exact q
    · rw [List.getElem?_eq_none q] at hv; cases hv
  have hx := List.getElem?_eq_getElem (h.1 ▸ hi : i < xs.length)
  exact ⟨_, hx, h.2 i v _ hv hx⟩
theorem take_snoc {α : Type} {xs : List α} {i : Nat} {x : α} (h : xs[i]? = some x) : xs.take (i + 1) = xs.take i ++ [x] := by
  rw [List.take_add_one, h]; rfl
theorem intsAre_of_lk {vs : List Value} {ns : List Int} (h : Lk (fun v n => ∃ t, v = .int n t) vs ns) : IntsAre vs ns := by
  induction vs generalizing ns with
  | nil =>
    cases ns with
    | nil => exact .nil
    | cons n r => cases h.1
  | cons v vs ih =>
    cases ns with
    | nil => cases h.1
    | cons n ns =>
      obtain ⟨t, rfl⟩ := h.2 0 v n rfl rfl
      exact .cons _ _ (ih ⟨Nat.succ.inj h.1, fun i v x a b => h.2 (i + 1) v x a b⟩)

def maxL : List Int → Int
  | [] => 0
  | a :: r => if maxL r ≤ a then a else maxL r
theorem maxL_ge : ∀ {l : List Int} {a : Int}, a ∈ l → a ≤ maxL l
  | b :: r, a, h => by
    unfold maxL
    rcases List.mem_cons.mp h with e | h
    · rw [e]; split <;> omega
    · have := maxL_ge h; split <;> omega
theorem maxL_mem : ∀ {l : List Int}, l ≠ [] → (∀ a ∈ l, 0 < a) → maxL l ∈ l
  | [b], _, h => by
    have := h b (.head _)
    have e : maxL [b] = b := by
      unfold maxL
      split
      · rfl
      · rename_i q; exact absurd (show maxL [] ≤ b from Int.le_of_lt this) q
    rw [e]
    exact .head _
  | b :: c :: r, _, h => by
    have ih := maxL_mem (l := c :: r) (by simp) (fun a ha => h a (.tail _ ha))
    rw [maxL]
    split
    · exact .head _
    · exact .tail _ ih
theorem maxL_eq {l : List Int} {M : Int} (hm : M ∈ l) (hg : ∀ a ∈ l, a ≤ M) (hp : ∀ a ∈ l, 0 < a) : M = maxL l := by
  have h1 := maxL_ge hm
  have h2 := hg _ (maxL_mem (List.ne_nil_of_mem hm) hp)
  omega

/-- a component that the ledger bears, by its samplings -/
inductive CompAt (w : World) (led : Led) (v : Value) (x : Int × Int) : Prop
  | mk : ∀ c dc k1 k2 k3 k4 i q tA tD, (v = .ref c) → ((c, instObj 91 dc) ∈ led) → ((dc, compD w k1 k2 k3 k4 i (.int x.1 tA) (.int x.2 tD) (.int 0 q)) ∈ led) → CompAt w led v x
/-- a tuple of two ints -/
inductive PairAt (led : Led) (v : Value) (x : Int × Int) : Prop
  | mk : ∀ t k tA tB, (v = .ref t) → ((t, ({ cls := .type "tuple", data := .seq #[.int x.1 tA, .int x.2 tB] k } : Obj)) ∈ led) → PairAt led v x
def Sub (a b : Led) : Prop := ∀ p ∈ a, p ∈ b
theorem CompAt.mono {w : World} {a b : Led} {v : Value} {x : Int × Int} (h : CompAt w a v x) (s : Sub a b) : CompAt w b v x := by
  obtain ⟨c, dc, k1, k2, k3, k4, i, q, tA, tD, e, h1, h2⟩ := h
  exact ⟨c, dc, k1, k2, k3, k4, i, q, tA, tD, e, s _ h1, s _ h2⟩
theorem PairAt.mono {a b : Led} {v : Value} {x : Int × Int} (h : PairAt a v x) (s : Sub a b) : PairAt b v x := by
  obtain ⟨t, k, tA, tB, e, h1⟩ := h
  exact ⟨t, k, tA, tB, e, s _ h1⟩
/-- samplings are 1 or 2 -/
def Smp (xs : List (Int × Int)) : Prop := ∀ x ∈ xs, (x.1 = 1 ∨ x.1 = 2) ∧ (x.2 = 1 ∨ x.2 = 2)

section

variable {w : World} {mean : ExcName → Option Value} {mg mb : Str → Option Value} {news : Led}
theorem across_ct (f df lc : Addr) (k1 k2 k3 k4 k5 k6 : Tok) (ki pr hh wd n : Value) (vs : List Value) (kl : Nat) (xs : List (Int × Int))
    (hf : (f, instObj 157 df) ∈ news) (hdf : (df, frameD w k1 k2 k3 k4 k5 k6 ki pr hh wd (.ref lc) n) ∈ news) (hlc : (lc, listOf vs.toArray kl) ∈ news) (hc : Lk (CompAt w news) vs xs) (hx : Smp xs) (hne : 0 < xs.length) (hle : xs.length < 100) :
    Ct w mean mg mb 114 2 news [.ref f] (fun r n' => (∃ t, r = .int (maxL (xs.map Prod.fst)) t) ∧ n' = news) := by
  (( k_with_none; (k_with "eval ListComp" => (first | (k_here; lct_look; k_dflt (refine LCt.ListComp_T (F₀ := by k_asm) (by with_unfolding_all rfl) (by decide) (by rfl) (by decide) (by rfl) ?_)) | (k_here; (fail_if_success lct_look); k_dflt (refine LCg.ListComp_U (F₀ := by k_asm) (by with_unfolding_all rfl) (by decide) (by rfl) (by decide) (by rfl) ?_)))); (k_with "exec Assign cons ListComp" => (first | (k_here; lct_look; k_dflt (refine LCt.Assign_ListComp_T (F₀ := by k_asm) (by rfl) (by with_unfolding_all rfl) (by with_unfolding_all rfl) (by decide) (by rfl) (by decide) (by rfl) (by rfl) (by rfl) ?_)) | (k_here; (fail_if_success lct_look); k_dflt (refine LCg.Assign_ListComp_U (F₀ := by k_asm) (by rfl) (by with_unfolding_all rfl) (by with_unfolding_all rfl) (by decide) (by rfl) (by decide) (by rfl) (by rfl) (by rfl) ?_)))); unfold Ct; k_fill; intro dp un gd cn cs a ccd cl outer A₀ base h₀ L m s Q E B F X N T hk hdp hun hret); refine wpAny_call ?_)
  (k_dflt (first | (refine' code_def ?k1 ?k2 ?k3 ?k4 ?k5 ?kA ?kF ?kK ?k6 ?k7 ?k8 ?k9 ?kB ?_ ?c2 ?c3 ?c4 ?c5; (case kA => exact rfl); (case kF => exact rfl); (case kK => first | exact rfl | assumption); (case k1 => k_asm); (case k2 => k_asm); (case k3 => k_asm); (case k4 => k_asm); (case k5 => k_asm); (case k6 => k_is); (case k7 => k_is); (case k8 => ktr_room); (case k9 => exact BindsTo.of_eq rfl); (case c5 => decide); (case kB => exact locs rfl); (case c2 => exact rfl); (case c3 => exact rfl); (case c4 => exact rfl); k_whole; intro qqg' qqL' qqh' qqFG' qqF' qqN' qqB' qqX' qqT'; (try dsimp only); (try k_lift qqB'); (try k_fold)) | (refine' code_defC ?k1 ?k2 ?k3 ?k4 ?k5 ?kA ?kF ?kK ?k6 ?k7 ?k8 ?k9 ?kB ?kD ?_ ?c2 ?c3 ?c4; (case kA => exact rfl); (case kF => exact rfl); (case kK => first | exact rfl | assumption); (case k1 => k_asm); (case k2 => k_asm); (case k3 => k_asm); (case k4 => k_asm); (case k5 => k_asm); (case k6 => k_is); (case k7 => k_is); (case k8 => ktr_room); (case k9 => exact BindsTo.of_eq rfl); (case kB => exact rfl); (case kD => decide +kernel); (case c2 => exact rfl); (case c3 => exact rfl); (case c4 => exact rfl); k_whole; intro qqg' qqL' qqh' qqtk' qqcells' qqFG' qqF' qqN' qqY' qqB' qqX' qqT' qql1; (try k_lt qql1); k_cells qqY'; (try simp only [List.cons_append, List.nil_append] at qqN'); (try dsimp only); (try k_lift qqB'); (try k_fold))); k_steps)
  refine LCg.CompSrc.ledger (its := vs.toArray) rfl (by k_asm) (by k_asm) (by assumption) ?_ (fun g9 => compRest_inv (n := vs.toArray.size) (fun i ys led => led = news ∧ IntsAre ys ((xs.take i).map Prod.fst)) ?_ ?_ _ 0 [] news (Nat.zero_add _) rfl ⟨rfl, .nil⟩)
  · rw [List.size_toArray, hc.1, sizeLine_eq]; omega
  · intro i ys led v I oI C oC D m₂ h tk E' hi hl hj hP hC hx' F' N' off' ne'
    obtain ⟨rfl, hints⟩ := hj
    have hv : vs[i]? = some v := by simpa using hP
    obtain ⟨x, hxi, c, dc, k1, k2, k3, k4, j, q, tA, tD, rfl, h1, h2⟩ := hc.get hv
    k_steps
    exact LCg.CompEnd.intro (by k_asm) N' led (fun p hp => hp) off' (Or.inr ⟨_, hlc, rfl, _, rfl⟩) ⟨rfl, by rw [take_snoc hxi, List.map_append]; exact IntsAre.append hints (.cons _ _ .nil)⟩
  · intro ys led hl hj
    obtain ⟨rfl, hints⟩ := hj
    unfold LCg.FinE
    intro D h tk F' N' o1
    have hD : h.IsList D ys.toArray := ⟨_, (N' _ (.head _)).1, rfl, _, rfl⟩
    rw [List.size_toArray, hc.1, List.take_length] at hints
    have hn9 : 0 < (xs.map Prod.fst).length := by simpa using hne
    k_steps
    have hpos : ∀ a ∈ xs.map Prod.fst, 0 < a := fun a ha => by
      obtain ⟨x, hx9, rfl⟩ := List.mem_map.mp ha
      have := hx x hx9
      omega
    have e9 := maxL_eq (by assumption) (by assumption) hpos
    exact hret _ led _ _ (by k_asm) (by (first | k_asm | exact cb_drop (by assumption) (by kcj_all))) ⟨⟨_, by rw [← e9]⟩, rfl⟩
theorem down_ct (f df lc : Addr) (k1 k2 k3 k4 k5 k6 : Tok) (ki pr hh wd n : Value) (vs : List Value) (kl : Nat) (xs : List (Int × Int))
    (hf : (f, instObj 157 df) ∈ news) (hdf : (df, frameD w k1 k2 k3 k4 k5 k6 ki pr hh wd (.ref lc) n) ∈ news) (hlc : (lc, listOf vs.toArray kl) ∈ news) (hc : Lk (CompAt w news) vs xs) (hx : Smp xs) (hne : 0 < xs.length) (hle : xs.length < 100) :
    Ct w mean mg mb 119 2 news [.ref f] (fun r n' => (∃ t, r = .int (maxL (xs.map Prod.snd)) t) ∧ n' = news) := by
  (( k_with_none; (k_with "eval ListComp" => (first | (k_here; lct_look; k_dflt (refine LCt.ListComp_T (F₀ := by k_asm) (by with_unfolding_all rfl) (by decide) (by rfl) (by decide) (by rfl) ?_)) | (k_here; (fail_if_success lct_look); k_dflt (refine LCg.ListComp_U (F₀ := by k_asm) (by with_unfolding_all rfl) (by decide) (by rfl) (by decide) (by rfl) ?_)))); (k_with "exec Assign cons ListComp" => (first | (k_here; lct_look; k_dflt (refine LCt.Assign_ListComp_T (F₀ := by k_asm) (by rfl) (by with_unfolding_all rfl) (by with_unfolding_all rfl) (by decide) (by rfl) (by decide) (by rfl) (by rfl) (by rfl) ?_)) | (k_here; (fail_if_success lct_look); k_dflt (refine LCg.Assign_ListComp_U (F₀ := by k_asm) (by rfl) (by with_unfolding_all rfl) (by with_unfolding_all rfl) (by decide) (by rfl) (by decide) (by rfl) (by rfl) (by rfl) ?_)))); unfold Ct; k_fill; intro dp un gd cn cs a ccd cl outer A₀ base h₀ L m s Q E B F X N T hk hdp hun hret); refine wpAny_call ?_)
  (k_dflt (first | (refine' code_def ?k1 ?k2 ?k3 ?k4 ?k5 ?kA ?kF ?kK ?k6 ?k7 ?k8 ?k9 ?kB ?_ ?c2 ?c3 ?c4 ?c5; (case kA => exact rfl); (case kF => exact rfl); (case kK => first | exact rfl | assumption); (case k1 => k_asm); (case k2 => k_asm); (case k3 => k_asm); (case k4 => k_asm); (case k5 => k_asm); (case k6 => k_is); (case k7 => k_is); (case k8 => ktr_room); (case k9 => exact BindsTo.of_eq rfl); (case c5 => decide); (case kB => exact locs rfl); (case c2 => exact rfl); (case c3 => exact rfl); (case c4 => exact rfl); k_whole; intro qqg' qqL' qqh' qqFG' qqF' qqN' qqB' qqX' qqT'; (try dsimp only); (try k_lift qqB'); (try k_fold)) | (refine' code_defC ?k1 ?k2 ?k3 ?k4 ?k5 ?kA ?kF ?kK ?k6 ?k7 ?k8 ?k9 ?kB ?kD ?_ ?c2 ?c3 ?c4; (case kA => exact rfl); (case kF => exact rfl); (case kK => first | exact rfl | assumption); (case k1 => k_asm); (case k2 => k_asm); (case k3 => k_asm); (case k4 => k_asm); (case k5 => k_asm); (case k6 => k_is); (case k7 => k_is); (case k8 => ktr_room); (case k9 => exact BindsTo.of_eq rfl); (case kB => exact rfl); (case kD => decide +kernel); (case c2 => exact rfl); (case c3 => exact rfl); (case c4 => exact rfl); k_whole; intro qqg' qqL' qqh' qqtk' qqcells' qqFG' qqF' qqN' qqY' qqB' qqX' qqT' qql1; (try k_lt qql1); k_cells qqY'; (try simp only [List.cons_append, List.nil_append] at qqN'); (try dsimp only); (try k_lift qqB'); (try k_fold))); k_steps)
  refine LCg.CompSrc.ledger (its := vs.toArray) rfl (by k_asm) (by k_asm) (by assumption) ?_ (fun g9 => compRest_inv (n := vs.toArray.size) (fun i ys led => led = news ∧ IntsAre ys ((xs.take i).map Prod.snd)) ?_ ?_ _ 0 [] news (Nat.zero_add _) rfl ⟨rfl, .nil⟩)
  · rw [List.size_toArray, hc.1, sizeLine_eq]; omega
  · intro i ys led v I oI C oC D m₂ h tk E' hi hl hj hP hC hx' F' N' off' ne'
    obtain ⟨rfl, hints⟩ := hj
    have hv : vs[i]? = some v := by simpa using hP
    obtain ⟨x, hxi, c, dc, k1, k2, k3, k4, j, q, tA, tD, rfl, h1, h2⟩ := hc.get hv
    k_steps
    exact LCg.CompEnd.intro (by k_asm) N' led (fun p hp => hp) off' (Or.inr ⟨_, hlc, rfl, _, rfl⟩) ⟨rfl, by rw [take_snoc hxi, List.map_append]; exact IntsAre.append hints (.cons _ _ .nil)⟩
  · intro ys led hl hj
    obtain ⟨rfl, hints⟩ := hj
    unfold LCg.FinE
    intro D h tk F' N' o1
    have hD : h.IsList D ys.toArray := ⟨_, (N' _ (.head _)).1, rfl, _, rfl⟩
    rw [List.size_toArray, hc.1, List.take_length] at hints
    have hn9 : 0 < (xs.map Prod.snd).length := by simpa using hne
    k_steps
    have hpos : ∀ a ∈ xs.map Prod.snd, 0 < a := fun a ha => by
      obtain ⟨x, hx9, rfl⟩ := List.mem_map.mp ha
      have := hx x hx9
      omega
    have e9 := maxL_eq (by assumption) (by assumption) hpos
    exact hret _ led _ _ (by k_asm) (by (first | k_asm | exact cb_drop (by assumption) (by kcj_all))) ⟨⟨_, by rw [← e9]⟩, rfl⟩
end

/-- an item of a list of the ledger at a place that is not written -/
theorem led_item {prog : Program} {w : World} {A : Around} {E : Value → Shared → Prop} {s : Shared} {h₀ : Heap} {L l : Addr} {news : Led} {vs : List Value} {kl : Nat} {value slice : PySem.Expr} {k : Int} {u : Tok} {v : Value} {Q : Value → Shared → Prop}
    (N : News h₀ L s.heap news) (hl : (l, listOf vs.toArray kl) ∈ news) (h0 : 0 ≤ k) (hhi : k < 2 ^ 63) (hx : vs[k.toNat]? = some v) (h : Q v s)
    (hs : subscripted slice false (.ref l) (.int k u) = operate [.ref l, .int k u] (getItem (.ref l) (.int k u)) := by with_unfolding_all rfl) :
    wpAny (model prog w) A (subscriptTail value slice (.ref l) (.int k u)) Q E s :=
  have hL : s.heap.IsList l vs.toArray := ⟨_, (N _ hl).1, rfl, _, rfl⟩
  tail_any hL.typeIs slot_list_getitem.lookup (wpAny_getItem_list hL h0 hhi (by simpa using hx) h) hs
section
variable {w : World} {mean : ExcName → Option Value} {mg mb : Str → Option Value} {news : Led}
theorem maxL_12 {xs : List (Int × Int)} (hx : Smp xs) (hne : xs ≠ []) : (maxL (xs.map Prod.fst) = 1 ∨ maxL (xs.map Prod.fst) = 2) ∧ (maxL (xs.map Prod.snd) = 1 ∨ maxL (xs.map Prod.snd) = 2) := by
  have h1 := maxL_mem (l := xs.map Prod.fst) (by simpa using hne) (fun a ha => by obtain ⟨x, hx9, rfl⟩ := List.mem_map.mp ha; have := hx x hx9; omega)
  have h2 := maxL_mem (l := xs.map Prod.snd) (by simpa using hne) (fun a ha => by obtain ⟨x, hx9, rfl⟩ := List.mem_map.mp ha; have := hx x hx9; omega)
  obtain ⟨x, hx1, e1⟩ := List.mem_map.mp h1
  obtain ⟨y, hy1, e2⟩ := List.mem_map.mp h2
  rw [← e1, ← e2]
  exact ⟨(hx x hx1).1, (hx y hy1).2⟩
theorem plane_ct (f df lc : Addr) (k1 k2 k3 k4 k5 k6 : Tok) (ki pr n : Value) (W H : Int) (tW tH : Tok) (vs : List Value) (kl : Nat) (xs : List (Int × Int)) (i : Int) (ti : Tok) (x : Int × Int)
    (hf : (f, instObj 157 df) ∈ news) (hdf : (df, frameD w k1 k2 k3 k4 k5 k6 ki pr (.int H tH) (.int W tW) (.ref lc) n) ∈ news) (hlc : (lc, listOf vs.toArray kl) ∈ news) (hc : Lk (CompAt w news) vs xs) (hx : Smp xs) (hle : xs.length < 100)
    (hW : 0 ≤ W ∧ W < 1000) (hH : 0 ≤ H ∧ H < 1000) (hi0 : 0 ≤ i) (hix : xs[i.toNat]? = some x) :
    Ct w mean mg mb 140 4 news [.ref f, .int i ti] (fun r n' => ∃ t k tA tB, r = .ref t ∧
      n' = (t, ({ cls := .type "tuple", data := .seq #[.int (cdiv (W * x.1) (maxL (xs.map Prod.fst))) tA, .int (cdiv (H * x.2) (maxL (xs.map Prod.snd))) tB] k } : Obj)) :: news ∧ ∀ p ∈ news, p.1 < t) := by
  have hlt : i.toNat < xs.length := by
    rcases Nat.lt_or_ge i.toNat xs.length with q | q
    · exact q
    · rw [List.getElem?_eq_none q] at hix; cases hix
  have hne : 0 < xs.length := by omega
  have hx12 := hx x (List.mem_of_getElem? hix)
  have hm := maxL_12 hx (List.ne_nil_of_mem (List.mem_of_getElem? hix))
  obtain ⟨v, hv⟩ : ∃ v, vs[i.toNat]? = some v := ⟨_, List.getElem?_eq_getElem (hc.1.symm ▸ hlt)⟩
  have hcc := hc.2 _ _ _ hv hix
  obtain ⟨c, dc, j1, j2, j3, j4, jj, q, tA, tD, rfl, h1, h2⟩ := hcc
  have hi63 : i < 2 ^ 63 := by omega
  generalize hm1 : maxL (xs.map Prod.fst) = m1 at hm ⊢
  generalize hm2 : maxL (xs.map Prod.snd) = m2 at hm ⊢
  (( k_with_none; (k_with "eval ListComp" => (first | (k_here; lct_look; k_dflt (refine LCt.ListComp_T (F₀ := by k_asm) (by with_unfolding_all rfl) (by decide) (by rfl) (by decide) (by rfl) ?_)) | (k_here; (fail_if_success lct_look); k_dflt (refine LCg.ListComp_U (F₀ := by k_asm) (by with_unfolding_all rfl) (by decide) (by rfl) (by decide) (by rfl) ?_)))); (k_with "exec Assign cons ListComp" => (first | (k_here; lct_look; k_dflt (refine LCt.Assign_ListComp_T (F₀ := by k_asm) (by rfl) (by with_unfolding_all rfl) (by with_unfolding_all rfl) (by decide) (by rfl) (by decide) (by rfl) (by rfl) (by rfl) ?_)) | (k_here; (fail_if_success lct_look); k_dflt (refine LCg.Assign_ListComp_U (F₀ := by k_asm) (by rfl) (by with_unfolding_all rfl) (by with_unfolding_all rfl) (by decide) (by rfl) (by decide) (by rfl) (by rfl) (by rfl) ?_)))); unfold Ct; k_fill; intro dp un gd cn cs a ccd cl outer A₀ base h₀ L m s Q E B F X N T hk hdp hun hret); refine wpAny_call ?_)
  k_with "subscriptTail Attribute Name Name ref int" => (k_here; k_dflt (refine led_item (by k_asm) hlc hi0 hi63 hv ?_))
  k_with "call ref" => ((k_here; k_dflt (refine Ct.use (by k_asm) (by k_asm) (by k_asm) (by k_asm) (by k_asm) (by first | exact rfl | assumption) (across_ct f df lc k1 k2 k3 k4 k5 k6 ki pr _ _ n vs kl xs hf hdf hlc hc hx hne hle) (by ktr_room) (by ktr_units) ?_)); intro r9 n9 h9 tk9 F9 N9 hp9; obtain ⟨⟨t9, rfl⟩, rfl⟩ := hp9; rw [hm1])
  k_with "call ref" => ((k_here; k_dflt (refine Ct.use (by k_asm) (by k_asm) (by k_asm) (by k_asm) (by k_asm) (by first | exact rfl | assumption) (down_ct f df lc k1 k2 k3 k4 k5 k6 ki pr _ _ n vs kl xs hf hdf hlc hc hx hne hle) (by ktr_room) (by ktr_units) ?_)); intro r9 n9 h9 tk9 F9 N9 hp9; obtain ⟨⟨t9, rfl⟩, rfl⟩ := hp9; rw [hm2])
  k_with "call ref" => ((k_here; k_dflt (refine Ct.use (by k_asm) (by k_asm) (by k_asm) (by k_asm) (by k_asm) (by first | exact rfl | assumption) (parts_ct _ _ _ _ (by omega) (by omega)) (by ktr_room) (by ktr_units) ?_)); intro r9 n9 h9 tk9 F9 N9 hp9; obtain ⟨⟨t9, rfl⟩, rfl⟩ := hp9)
  (k_dflt (first | (refine' code_def ?k1 ?k2 ?k3 ?k4 ?k5 ?kA ?kF ?kK ?k6 ?k7 ?k8 ?k9 ?kB ?_ ?c2 ?c3 ?c4 ?c5; (case kA => exact rfl); (case kF => exact rfl); (case kK => first | exact rfl | assumption); (case k1 => k_asm); (case k2 => k_asm); (case k3 => k_asm); (case k4 => k_asm); (case k5 => k_asm); (case k6 => k_is); (case k7 => k_is); (case k8 => ktr_room); (case k9 => exact BindsTo.of_eq rfl); (case c5 => decide); (case kB => exact locs rfl); (case c2 => exact rfl); (case c3 => exact rfl); (case c4 => exact rfl); k_whole; intro qqg' qqL' qqh' qqFG' qqF' qqN' qqB' qqX' qqT'; (try dsimp only); (try k_lift qqB'); (try k_fold)) | (refine' code_defC ?k1 ?k2 ?k3 ?k4 ?k5 ?kA ?kF ?kK ?k6 ?k7 ?k8 ?k9 ?kB ?kD ?_ ?c2 ?c3 ?c4; (case kA => exact rfl); (case kF => exact rfl); (case kK => first | exact rfl | assumption); (case k1 => k_asm); (case k2 => k_asm); (case k3 => k_asm); (case k4 => k_asm); (case k5 => k_asm); (case k6 => k_is); (case k7 => k_is); (case k8 => ktr_room); (case k9 => exact BindsTo.of_eq rfl); (case kB => exact rfl); (case kD => decide +kernel); (case c2 => exact rfl); (case c3 => exact rfl); (case c4 => exact rfl); k_whole; intro qqg' qqL' qqh' qqtk' qqcells' qqFG' qqF' qqN' qqY' qqB' qqX' qqT' qql1; (try k_lt qql1); k_cells qqY'; (try simp only [List.cons_append, List.nil_append] at qqN'); (try dsimp only); (try k_lift qqB'); (try k_fold))); k_steps)
  exact hret _ _ _ _ (by k_asm) (by k_asm) ⟨_, _, _, _, rfl, rfl, by assumption⟩
end

abbrev excO (t : Addr) (d : Option Addr) : Obj := { cls := .ref 51, dict := d, data := .fields #[.ref t, .none, .none, .none, .bool false, .none] }
section
variable {M : Model} {A : Around} {E : Value → Shared → Prop} {h : Heap} {g : Array GenState} {d : Drawn} {t : Nat} {os : OsState}
variable {nm q : Str} {C N : Addr} {bs bm : List Value} {hdct : Bool} {sn : List Str} {sub : List Value} {ab : Bool} {col : Option Bool} {dd : Option Addr} {k0 k1 k2 k3 k5 : Option Value}
theorem x_check_new {rest : List Value} {Q : Unit → Shared → Prop} (hB : bm.contains (.type "Exception") = true) (hC : h.get? C = some (excClassObj nm q C N bs bm hdct sn sub ab col dd k0 k1 k2 k3 k5 "Exception.__new__"))
    (hq : Q () ⟨h, g, d, t, os⟩) : wpAny M A (checkBuiltinCall "Exception.__new__" ⟨.ref C :: rest, []⟩) Q E ⟨h, g, d, t, os⟩ := by
  have F := PySem.F.excBase_Exception
  have hcont : (Value.ref C :: bm).contains (.type "Exception") = true := by rw [List.contains_cons, hB, Bool.or_true]
  have hstar := F.noStar
  simp only [checkBuiltinCall, F.newKind, F.newSplit, F.newRow]
  repeat (first | refine wpAny_loadPart_at hC ?_ | (refine wpAny_isSubtype_exc hC ?_; rw [hcont]) | refine wpAny_staticBase_exc hC ?_ | refine wpAny_madeBy_exc hC ?_ | simp only [bne_self_eq_false, Bool.false_eq_true, if_false] | wp_step)
  exact hq
end
section
variable {prog : Program} {w : World} {A : Around} {R : Result → Shared → Prop} {h : Heap} {g : Array GenState} {d : Drawn} {t : Nat} {os : OsState}
variable {nm q : Str} {C N : Addr} {bs bm : List Value} {hdct : Bool} {sn : List Str} {sub : List Value} {ab : Bool} {col : Option Bool} {dd : Option Addr} {k0 k1 k2 k3 k5 : Option Value}
theorem x_new {rest : List Value} (hB : bm.contains (.type "Exception") = true) (hnA : bm.contains (.type "AttributeError") = false) (hnN : bm.contains (.type "NameError") = false)
    (hC : h.get? C = some (excClassObj nm q C N bs bm hdct sn sub ab col dd k0 k1 k2 k3 k5 "Exception.__new__"))
    (hq : R (.ok (.ret (.ref (h.objs.size + 1)))) ⟨(h.push { cls := .type "tuple", data := .seq rest.toArray }).push
      { cls := .ref C, data := .fields #[.ref h.objs.size, .none, .none, .none, .bool false, .none] }, g, d, t, os⟩) (hrest : rest.length ≤ sizeLine) :
    codeAny (model prog w) A (.builtin "Exception.__new__" ⟨.ref C :: rest, []⟩) R ⟨h, g, d, t, os⟩ := by
  have F := PySem.F.excBase_Exception
  have hends := F.ends
  have hcB : (Value.ref C :: bm).contains (.type "Exception") = true := by rw [List.contains_cons, hB, Bool.or_true]
  have hcA : (Value.ref C :: bm).contains (.type "AttributeError") = false := by rw [List.contains_cons, hnA]; rfl
  have hcN : (Value.ref C :: bm).contains (.type "NameError") = false := by rw [List.contains_cons, hnN]; rfl
  refine codeAny_builtinAt F.entry ?_
  unfold Builtin.«BaseException.__new__»
  refine PySem.wpAt_bind ?_
  show PySem.wpAt _ _ _ (stack >>= _) _ _ _
  refine PySem.wpAt_bind (PySem.wpAt_stack fun p below => PySem.wpAt_of_wpAny ?_)
  wp_walk
  refine PySem.wpAt_of_wpAny ?_
  rw [F.owner]
  repeat (first | with_reducible refine wpAny_madeHere_exc F.canon hC ?_ | with_reducible refine wpAny_loadPart_at hC ?_ | (with_reducible refine wpAny_isSubtype_exc hC ?_; first | rw [hcB] | rw [hcA] | rw [hcN]) | wp_step)
  show R _ _
  rw [Heap.size_push]
  exact hq
end

section
variable {w : World} {A : Around} {R : Result → Shared → Prop} {h : Heap} {g : Array GenState} {d : Drawn} {t : Nat} {os : OsState}
theorem x_call {rest : List Value} (X : (hd.heap_39 w.params).In h) (hrest : rest.length ≤ sizeLine)
    (hq : codeAny (model PySem.Challenge.rw_ok0126_01.row.prog w) (A.under (.builtin "type.__call__" ⟨.ref 51 :: rest, []⟩)) (.call (.ref 35) ⟨.ref (h.objs.size + 1) :: rest, []⟩) (InitBack (h.objs.size + 1) R)
      ⟨(h.push { cls := .type "tuple", data := .seq rest.toArray }).push (excO h.objs.size none), g, d, t, os⟩) :
    codeAny (model PySem.Challenge.rw_ok0126_01.row.prog w) A (.call (.ref 51) ⟨rest, []⟩) R ⟨h, g, d, t, os⟩ := by
  revert X
  k_fill
  intro X
  have hC := X 51 _ (by k_is)
  have hsp := looks_specialIn (M := model PySem.Challenge.rw_ok0126_01.row.prog w) X (v := .ref 51) (name := "__call__") (by k_dflt k_is)
  have htyp : Looks (model PySem.Challenge.rw_ok0126_01.row.prog w) h (isInstance (.ref 51) (.type "type")) true := looks_instIn X (by k_dflt k_is)
  have hinit := looks_findIn (M := model PySem.Challenge.rw_ok0126_01.row.prog w) X (t := .ref 51) (name := "__init__") (by k_dflt k_is)
  have hfn := bind_fn (M := model PySem.Challenge.rw_ok0126_01.row.prog w) X (f := 35) (.ref (h.objs.size + 1)) (by k_dflt k_is)
  have hself : Looks (model PySem.Challenge.rw_ok0126_01.row.prog w) h (isSubtype (.ref 51) (.ref 51)) true := looks_subIn X (by k_dflt k_is)
  refine codeAny_of_tree ?_
  show wpAny _ _ (callAny (.ref 51) _) _ _ _
  refine nd_load hC ?_
  show wpAny _ _ (callAny.viaDunder (.ref 51) _) _ _ _
  unfold callAny.viaDunder
  refine wpAny_bind (hsp.at ?_)
  dsimp only
  rw [PySem.tc_bind]
  refine wpAny_bind (wpAny_pure (wpAny_bind (wpAny_pure ?_)))
  refine wpAny_pure (a := Fin.again (.call (.builtin "type.__call__") ⟨.ref 51 :: rest, []⟩)) (And.intro rfl ?_)
  refine codeAny_call_builtin_at (Code.quiet_builtin _ (by decide +kernel)) entry_typeCall (check_slot PySem.tc_kind PySem.tc_split htyp (tc_args _ _ _) ?_)
  unfold Builtin.«type.__call__»
  repeat (first | with_reducible refine wpAny_loadPart_at hC ?_ | with_reducible refine wpAny_madeBy_exc hC ?_ | wp_step)
  refine codeAny_call_builtin_code (Code.quiet_builtin _ PySem.F.excBase_Exception.quiet) (x_check_new (by decide +kernel) hC ?_)
  refine x_new (by decide +kernel) (by decide +kernel) (by decide +kernel) hC ?_ hrest
  show wpAny _ _ _ _ _ _
  have k : ∀ b o, h.get? b = some o → ((h.push { cls := .type "tuple", data := .seq rest.toArray }).push (excO h.objs.size none)).get? b = some o := fun b o e => Heap.get?_push_of_some _ (Heap.get?_push_of_some _ e)
  have hx : ((h.push { cls := .type "tuple", data := .seq rest.toArray }).push (excO h.objs.size none)).get? (h.objs.size + 1) = some (excO h.objs.size none) := by heap_get
  have t1 : Looks (model PySem.Challenge.rw_ok0126_01.row.prog w) ((h.push { cls := .type "tuple", data := .seq rest.toArray }).push (excO h.objs.size none)) (typeOf (.ref (h.objs.size + 1))) (.ref 51) := (Looks.ld hx).andThen .now
  have s1 := hself.keeps k
  have i1 := hinit.keeps k
  have b1 := hfn.keeps k
  unfold isInstance callSpecial? specialOf
  repeat (first | with_reducible refine wpAny_call ?_ | lk)
  refine codeAny_mono hq fun r s' z => ?_
  rcases r with e | (v | _ | _ | _) <;> first | exact z | exact z.elim | skip
  obtain ⟨rfl, z⟩ := z
  exact wpAny_pure (wpAny_pure z)
end
section
variable {w : World} {A : Around} {E : Value → Shared → Prop} {s : Shared} {e t : Addr}
/-- the fields of the exception laid anew -/
theorem x_init {vs : List Value} {Q : Value → Shared → Prop} (X : (hd.heap_39 w.params).In s.heap) (he : s.heap.get? e = some (excO t none)) (hle : vs.length ≤ sizeLine)
    (hQ : ∀ h', h'.get? e = some (excO s.heap.objs.size none) → (∀ b o, b ≠ e → s.heap.get? b = some o → h'.get? b = some o) → Q .none { s with heap := h' }) :
    wpAny (model PySem.Challenge.rw_ok0126_01.row.prog w) A (call (.builtin "Exception.__init__") (.ref e :: vs)) Q E s := by
  revert X
  k_fill
  intro X
  have F := PySem.F.excBase_Exception
  have hC := X 51 _ (by k_is)
  obtain ⟨hh, g, d, tk, os⟩ := s
  have hshort := F.noStar
  refine wpAny_call (codeAny_call_builtin F.init.plain F.initEntry ?_)
  simp only [checkBuiltinCall, F.initKind, F.initSplit, F.initRow]
  repeat (first | with_reducible refine wpAny_loadPart_at he ?_ | with_reducible refine wpAny_loadPart_at hC ?_ | (with_reducible refine wpAny_isSubtype_exc hC ?_; rw [show List.contains _ (Value.type "Exception") = true from by decide +kernel]) | wp_step)
  refine wpAny_onRaise ?_
  rw [show ∀ (a b : String) (n : Nat), Bind.check ⟨.positional, "*", "Exception", .self, [⟨"args", .varPos, false⟩]⟩ a b n (List.map (fun x => x.fst) ({ pos := Value.ref e :: vs } : Args).kw) = pure () from
    fun a b n => check_star_args _ _ _ _ _ _]
  refine wpAny_pure ?_
  unfold Builtin.«BaseException.__init__»
  dsimp only
  rw [if_neg (by simp)]
  unfold newTuple Builtin.BaseException.bexcPut
  have he₁ := Heap.get?_push_of_some (h := hh) { cls := .type "tuple", data := .seq vs.toArray } he
  refine wpAny_bind (wpAny_newObj_type (wpAny_bind (wpAny_bind (wpAny_field he₁ rfl rfl (wpAny_bind (wpAny_setField he₁ rfl (by show 0 < 6; decide) ?_))))) (by show vs.toArray.size ≤ sizeLine; rw [List.size_toArray]; exact hle))
  refine wpAny_letGo (wpAny_pure ?_)
  refine hQ _ ?_ ?_
  · rw [Heap.get?_update_self _ he₁ rfl]
    rfl
  · intro b o hb hbo
    rw [Heap.get?_update_other _ _ (Ne.symm hb)]
    exact Heap.get?_push_of_some _ hbo
end

theorem Looks.ld0 {M : Model} {h : Heap} {a : Addr} {o : Obj} (e : h.get? a = some o) : Looks M h (load a) o := fun _ _ _ _ k q => wpAny_load (k _ _ e) q
theorem x_pass (x : Addr) : refuseLoop (.ref x) "__setattr__" [.ref 51, .ref 38, .type "Exception", .type "BaseException", .type "object"] = pure () := by
  rw [refuseLoop_ref, refuseLoop_ref, PySem.F.store_Exception.passes]
section
variable {w : World} {A : Around} {E : Value → Shared → Prop} {s : Shared} {e t : Addr}
/-- an attribute laid on the exception, whose dict is made by it -/
theorem x_set {name : Str} {v : Value} {Q : Unit → Shared → Prop} (hname : name = "message") (X : (hd.heap_39 w.params).In s.heap) (he : s.heap.get? e = some (excO t none))
    (hQ : ∀ h' d tk', h'.get? e = some (excO t (some d)) → (∀ b o, b ≠ e → s.heap.get? b = some o → h'.get? b = some o) → Q () { s with heap := h', toks := tk' }) :
    wpAny (model PySem.Challenge.rw_ok0126_01.row.prog w) A (setAttr (.ref e) name v) Q E s := by
  subst hname
  revert X
  k_fill
  intro X
  have I : InstAt s.heap e (excO t none) 51 none := ⟨he, rfl, rfl, trivial⟩
  refine set_plain X I (by k_dflt k_is) ?_
  have hC := X 51 _ (by k_is)
  have hm : Looks (model PySem.Challenge.rw_ok0126_01.row.prog w) s.heap (mroOf (.ref 51)) [.ref 51, .ref 38, .type "Exception", .type "BaseException", .type "object"] := fun A Q E s' k q => by
    obtain ⟨h', g', d', t', os'⟩ := s'
    exact wpAny_mroOf_exc (k _ _ hC) q
  have hcd : Looks (model PySem.Challenge.rw_ok0126_01.row.prog w) s.heap (classData 51) _ := (Looks.ld0 hC).andThen .now
  have hsub : Looks (model PySem.Challenge.rw_ok0126_01.row.prog w) s.heap (isSubtype (.ref 51) (.type "object")) true := looks_subIn X (by k_dflt k_is)
  have hfind : Looks (model PySem.Challenge.rw_ok0126_01.row.prog w) s.heap (typeLookup (.ref 51) "message") none := looks_findIn X (by k_dflt k_is)
  have SF := PySem.F.store_object
  have sub : Looks (model PySem.Challenge.rw_ok0126_01.row.prog w) s.heap (isInstance (.ref e) (.type "object")) true := I.type.andThen hsub
  refine codeAny_call_builtin SF.slot.plain SF.entry (@check_slot (model PySem.Challenge.rw_ok0126_01.row.prog w) _ _ { s with toks := s.toks + 1 } "object.__setattr__" "object" "__setattr__" (.ref e) [.str "message" s.toks, v] [] _ SF.kind SF.split sub (SF.args (.ref e) (.str "message" s.toks) v) ?_)
  rw [osa_eq, refuse_eq]
  refine wpAny_bind (wpAny_bind (Looks.here (s := { s with toks := s.toks + 1 }) I.type (wpAny_bind (Looks.here (s := { s with toks := s.toks + 1 }) hm ?_))))
  rw [x_pass]
  refine wpAny_pure (wpAny_bind (Looks.here (s := { s with toks := s.toks + 1 }) I.type (wpAny_bind (Looks.here (s := { s with toks := s.toks + 1 }) hfind ?_))))
  refine wpAny_bind (wpAny_pure ?_)
  refine wpAny_bind (wpAny_pure (wpAny_bind (wpAny_bind (wpAny_loadPart he (wpAny_bind (Looks.here (s := { s with toks := s.toks + 1 }) hcd ?_))))))
  have hxs : e ≠ s.heap.objs.size := Nat.ne_of_lt (Heap.lt_size he)
  have hx₁ : (s.heap.push { cls := .type "dict", data := .dict #[] }).get? e = some (excO t none) := Heap.get?_push_of_some _ he
  refine wpAny_bind (wpAny_alloc ?_)
  refine wpAny_bind (wpAny_update hx₁ ?_)
  refine wpAny_pure (wpAny_bind ?_)
  refine wpAny_pure ?_
  have hgd : ((s.heap.push { cls := .type "dict", data := .dict #[] }).update e fun o => { cls := o.cls, dict := some s.heap.objs.size, data := o.data, slots := o.slots }).get? s.heap.objs.size
      = some { cls := .type "dict", data := .dict #[] } :=
    (Heap.get?_update_ne _ _ _ _ hxs.symm).trans (Heap.get?_push_at rfl rfl)
  have hnd : ((s.heap.push { cls := .type "dict", data := .dict #[] }).update e fun o => { cls := o.cls, dict := some s.heap.objs.size, data := o.data, slots := o.slots }).Ns s.heap.objs.size (fun _ => none) :=
    ⟨_, #[], _, hgd, rfl, fun e he => absurd he (by simp), fun _ => rfl⟩
  refine wpAny_bind (wpAny_nsSet1 (Heap.Ns1.of_empty hnd) fun h' hn' hs => ?_)
  obtain ⟨oD, esD, epD, hoD, hdD, hcD⟩ := hn'.count (Within.cons "message" v Within.nil)
  refine wpAny_bind (wpAny_lookBehind hoD (by rw [hdD]; exact pastItsLine_dict (Nat.le_trans hcD (by rw [List.length_cons, List.length_nil, sizeLine_eq]; omega))) ?_)
  refine wpAny_pure ?_
  refine hQ h' s.heap.objs.size _ ?_ ?_
  · refine (hs.2 e hxs).trans (Heap.get?_update_self _ hx₁ rfl)
  · intro b o hb hbo
    exact (hs.2 b (Nat.ne_of_lt (Heap.lt_size hbo))).trans ((Heap.get?_update_ne _ _ _ _ hb).trans (Heap.get?_push_of_some _ hbo))
end

section
variable {h₀ h h' : Heap} {L e : Addr} {m : Str → Option Value} {news : Led} {o o' : Obj}
theorem news_chg (N : News h₀ L h ((e, o) :: news)) (hr : ∀ q ∈ news, q.1 ≠ e) (he : h'.get? e = some o') (hk : ∀ b x, b ≠ e → h.get? b = some x → h'.get? b = some x) : News h₀ L h' ((e, o') :: news) := fun p hp => by
  rcases List.mem_cons.mp hp with rfl | hp
  · exact ⟨he, (N _ (.head _)).2⟩
  · exact ⟨hk _ _ (hr p hp) (N p (.tail _ hp)).1, (N p (.tail _ hp)).2⟩
theorem fr_chg (F : Fr h₀ L h m) (N : News h₀ L h ((e, o) :: news)) (hk : ∀ b x, b ≠ e → h.get? b = some x → h'.get? b = some x) : Fr h₀ L h' m :=
  ⟨F.ns.at' fun x q => hk L x (Ne.symm (N _ (.head _)).2.1) q, fun b x q => hk b x (fun z => by have := (N _ (.head _)).2.2; rw [z] at q; rw [this] at q; cases q) (F.keep b x q), F.above⟩
end
theorem x_meta : typeOf (.type "Exception") = pure (.type "type") := by kernel_rfl
section
variable {w : World} {mean : ExcName → Option Value} {mg mb : Str → Option Value} {news : Led}
local macro_rules | `(tactic| walk_at "getMethod type:Exception") => `(tactic| (k_here; refine' method_type ?F ?X ?m (by decide +kernel) ?e ?h ?_; (case F => k_asm); (case X => k_asm); (case m => exact x_meta); (case e => k_dflt k_is); (case h => k_handed)))
/-- what the class hands back: an exception of the ledger -/
theorem xmake_ct (msg : Str) (tm : Tok) : Ct w mean mg mb 51 3 news [.str msg tm] (fun r n' => ∃ e t d, r = .ref e ∧ n' = (e, excO t (some d)) :: news ∧ ∀ q ∈ news, q.1 < e) := by
  (( k_with_none; (k_with "eval ListComp" => (first | (k_here; lct_look; k_dflt (refine LCt.ListComp_T (F₀ := by k_asm) (by with_unfolding_all rfl) (by decide) (by rfl) (by decide) (by rfl) ?_)) | (k_here; (fail_if_success lct_look); k_dflt (refine LCg.ListComp_U (F₀ := by k_asm) (by with_unfolding_all rfl) (by decide) (by rfl) (by decide) (by rfl) ?_)))); (k_with "exec Assign cons ListComp" => (first | (k_here; lct_look; k_dflt (refine LCt.Assign_ListComp_T (F₀ := by k_asm) (by rfl) (by with_unfolding_all rfl) (by with_unfolding_all rfl) (by decide) (by rfl) (by decide) (by rfl) (by rfl) (by rfl) ?_)) | (k_here; (fail_if_success lct_look); k_dflt (refine LCg.Assign_ListComp_U (F₀ := by k_asm) (by rfl) (by with_unfolding_all rfl) (by with_unfolding_all rfl) (by decide) (by rfl) (by decide) (by rfl) (by rfl) (by rfl) ?_)))); unfold Ct; k_fill; intro dp un gd cn cs a ccd cl outer A₀ base h₀ L m s Q E B F X N T hk hdp hun hret); refine wpAny_call ?_)
  obtain ⟨hh, g, dr, tk, os⟩ := s
  refine x_call (Frag.In.keeps (by k_asm) (Fr.keep (by k_asm))) (by size_fits) ?_
  have F1 := (F.push { cls := .type "tuple", data := .seq [Value.str msg tm].toArray }).push (excO hh.objs.size none)
  have N1 := (N.push F { cls := .type "tuple", data := .seq [Value.str msg tm].toArray }).push (F.push _) (excO hh.objs.size none)
  rw [Heap.size_push] at N1
  have hl : ∀ q ∈ news, q.1 < hh.objs.size + 1 := fun q hq => Nat.lt_succ_of_lt (Heap.lt_size (N q hq).1)
  have N2 : News h₀ L _ ((hh.objs.size + 1, excO hh.objs.size none) :: news) := fun p hp => N1 p (by rcases List.mem_cons.mp hp with rfl | hp; exact .head _; exact .tail _ (.tail _ hp))
  clear N1 F N
  have hr : ∀ q ∈ news, q.1 ≠ hh.objs.size + 1 := fun q hq => Nat.ne_of_lt (hl q hq)
  k_with "call builtin:Exception.__init__" => (k_here; k_dflt (refine x_init (Frag.In.keeps (by k_asm) (Fr.keep (by k_asm))) (News.get (by k_asm) (List.Mem.head _)) (by size_fits) ?_); intro h9 he9 hk9; (rename Fr _ _ _ _ => F8); (rename News _ _ _ _ => N8); have F9 := fr_chg F8 N8 hk9; have N9 := news_chg N8 hr he9 hk9; clear F8 N8; try dsimp only)
  k_with "setAttr ref" => (k_here; k_dflt (refine x_set rfl (Frag.In.keeps (by k_asm) (Fr.keep (by k_asm))) (News.get (by k_asm) (List.Mem.head _)) ?_); intro h9 d9 tk9 he9 hk9; (rename Fr _ _ _ _ => F8); (rename News _ _ _ _ => N8); have F9 := fr_chg F8 N8 hk9; have N9 := news_chg N8 hr he9 hk9; clear F8 N8; try dsimp only)
  k_dflt (first | (refine' code_def ?k1 ?k2 ?k3 ?k4 ?k5 ?kA ?kF ?kK ?k6 ?k7 ?k8 ?k9 ?kB ?_ ?c2 ?c3 ?c4 ?c5; (case kA => exact rfl); (case kF => exact rfl); (case kK => first | exact rfl | assumption); (case k1 => k_asm); (case k2 => k_asm); (case k3 => k_asm); (case k4 => k_asm); (case k5 => k_asm); (case k6 => k_is); (case k7 => k_is); (case k8 => ktr_room); (case k9 => exact BindsTo.of_eq rfl); (case c5 => decide); (case kB => exact locs rfl); (case c2 => exact rfl); (case c3 => exact rfl); (case c4 => exact rfl); k_whole; intro qqg' qqL' qqh' qqFG' qqF' qqN' qqB' qqX' qqT'; (try dsimp only); (try k_lift qqB'); (try k_fold)) | (refine' code_defC ?k1 ?k2 ?k3 ?k4 ?k5 ?kA ?kF ?kK ?k6 ?k7 ?k8 ?k9 ?kB ?kD ?_ ?c2 ?c3 ?c4; (case kA => exact rfl); (case kF => exact rfl); (case kK => first | exact rfl | assumption); (case k1 => k_asm); (case k2 => k_asm); (case k3 => k_asm); (case k4 => k_asm); (case k5 => k_asm); (case k6 => k_is); (case k7 => k_is); (case k8 => ktr_room); (case k9 => exact BindsTo.of_eq rfl); (case kB => exact rfl); (case kD => decide +kernel); (case c2 => exact rfl); (case c3 => exact rfl); (case c4 => exact rfl); k_whole; intro qqg' qqL' qqh' qqtk' qqcells' qqFG' qqF' qqN' qqY' qqB' qqX' qqT' qql1; (try k_lt qql1); k_cells qqY'; (try simp only [List.cons_append, List.nil_append] at qqN'); (try dsimp only); (try k_lift qqB'); (try k_fold)))
  k_steps
  exact hret _ _ _ _ (by k_asm) (by k_asm) ⟨_, _, _, rfl, rfl, hl⟩
end

section
variable {w : World} {A : Around} {E : Value → Shared → Prop} {s : Shared} {env : Env}
theorem x_raise {exc : PySem.Expr} {pos : Pos} {Q : Flow → Shared → Prop} (hh : A.handled = none)
    (h : wpAny (model PySem.Challenge.rw_ok0126_01.row.prog w) A (eval exc env) (fun v s₁ => ∃ e t d, v = .ref e ∧ (hd.heap_39 w.params).In s₁.heap ∧ s₁.heap.get? e = some (excO t d) ∧ E (.ref e) s₁) E s) :
    wpAny (model PySem.Challenge.rw_ok0126_01.row.prog w) A (exec (.Raise (some exc) none pos) env) Q E s := by
  revert h
  k_fill
  intro h
  rw [arm_exec_Raise]
  refine wpAny_bind (wpAny_standAt ?_)
  unfold raiseStmt
  refine wpAny_bind (wpAny_bind (wpAny_mono h (fun v s₁ h₁ => wpAny_bind (wpAny_standAt (wpAny_pure ?_))) fun _ _ x => x))
  obtain ⟨e, t, d, rfl, X, he, hE⟩ := h₁
  have hC := X 51 _ (by k_is)
  obtain ⟨hp, g, dr, tk, os⟩ := s₁
  repeat (first | with_reducible refine wpAny_loadPart_at he ?_ | with_reducible refine wpAny_loadPart_at hC ?_ | (with_reducible refine wpAny_isSubtype_exc hC ?_; rw [show List.contains _ (Value.type "BaseException") = true from by decide +kernel]) | wp_step)
  exact wpAny_raiseNew_none hh hE
end

/-- an exception on its way through the frames, of the class at 51 -/
def Flies (base : Heap) (l : List Env) (e : Addr) (news : Led) (h : Heap) : Prop := RaisedN base l e (.ref 51) news h
section
variable {M : Model} {A : Around} {E : Value → Shared → Prop} {s' : Shared} {base g : Heap} {outer : List Env} {L a e t : Addr} {m : Str → Option Value} {name : Str} {scope : Scope} {cd : Value} {Q : Unit → Shared → Prop} {news : Led} {d : Option Addr}
theorem x_leave (K : Below A base outer g) (F : Fr g L s'.heap m) (N : News g L s'.heap ((e, excO t d) :: news)) (hr : ∀ q ∈ news, q.1 ≠ e)
    (hQ : ∀ h', Flies base outer e news h' → g.UpToSlots h' → Q () { s' with heap := h' }) (hk : scope.kind = .function := by rfl) :
    wpAny M (A.deeper (envOf name scope L a cd)) (leaving (envOf name scope L a cd) (.ref e)) Q E s' := by
  have K' := K.push (name := name) (a := a) (cd := cd) F hk
  have hin : ∀ env ∈ (envOf name scope L a cd :: outer), ∀ b, env.frame = some b → b ∈ e :: (envOf name scope L a cd :: outer).filterMap (·.frame) := fun env he b hb => List.mem_cons_of_mem _ (List.mem_filterMap.mpr ⟨env, he, hb⟩)
  have he0 : base.get? e = none := fresh_of_stays K.stays (N _ (.head _)).2.2
  have st : base.StaysIn (hideAll s'.heap (e :: (envOf name scope L a cd :: outer).filterMap (·.frame))) := fun b o q => hideAll_get _ (K'.stays b o q) fun hm => by
    rcases List.mem_cons.mp hm with rfl | hm
    · rw [he0] at q; cases q
    · rw [(K'.frames.mem hm).1] at q; cases q
  have hl : ∀ q ∈ news, (hideAll s'.heap (e :: (envOf name scope L a cd :: outer).filterMap (·.frame))).get? q.1 = some q.2 ∧ base.get? q.1 = none := fun q hq => by
    have Nq := N q (.tail _ hq)
    refine ⟨hideAll_get _ Nq.1 fun hm => ?_, fresh_of_stays K.stays Nq.2.2⟩
    rcases List.mem_cons.mp hm with hm | hm
    · exact hr q hq hm
    · obtain ⟨env, he, hf⟩ := List.mem_filterMap.mp hm
      rcases List.mem_cons.mp he with rfl | he
      · exact Nq.2.1 (Option.some.inj hf).symm
      · obtain ⟨o, ho, _⟩ := (K.frames.mem (List.mem_filterMap.mpr ⟨env, he, hf⟩)).2
        rw [Nq.2.2] at ho; cases ho
  have he := (N _ (.head _)).1
  have hen : (hideAll s'.heap (e :: (envOf name scope L a cd :: outer).filterMap (·.frame))).get? e = none := hideAll_none _ (.head _)
  refine wpAny_leaving_firstW (a0 := .ref t) K'.stack (funFrames_hide K'.frames hin) rfl he (fun b o hb => of_hideAll _ hb) hen rfl rfl rfl fun h' hL => ?_
  obtain ⟨k1, ⟨_, _, k2⟩, k3, k4⟩ := hL
  exact hQ h' ⟨_, .ref t, st, hl, k1, hen, k2, k3⟩ ((Heap.UpToSlots.of_keeps F.keep).trans k4)
end
section
variable {w : World} {A₀ : Around} {E : Value → Shared → Prop} {s' : Shared} {h₀ h : Heap} {outer : List Env} {L a e : Addr} {m : Str → Option Value} {name : Str} {scope : Scope} {cd : Value} {cl : List (Str × Addr)}
  {b₀ : Stmt} {suite : List Stmt} {pos np : Pos} {rest : List ExceptHandler} {Q : Flow → Shared → Prop} {news : Led}
  {p : Program} {loose : List Str} {mg mb : Str → Option Value} {x : Str}
theorem x_caught (hst : A₀.frames = some outer) (F : Fr h₀ L h m) (hsm : h.UpToSlots s'.heap) (R : Flies h₀ (envX name scope L a cd cl :: outer) e news s'.heap)
    (X : (hd.heap_39 w.params).In h₀) (T : TopRead p loose mg mb h₀) (ex : nsIn (hd.heap_39 w.params) mainGlobals x = some (some (.ref 51)))
    (k : ∀ h', Fr h₀ L h' m → News h₀ L h' news →
      wpAny (model PySem.Challenge.rw_ok0126_01.row.prog w) ((A₀.deeper (envX name scope L a cd cl)).mark (some (.ref e))) (execs (b₀ :: suite) (envX name scope L a cd cl)) Q (fun _ _ => False) { s' with heap := h' })
    (hk : scope.kind = .function) (hx : (envX name scope L a cd cl).kindOf x = some .globalImplicit) (hd : (x == ("__debug__" : Str)) = false) :
    wpAny (model PySem.Challenge.rw_ok0126_01.row.prog w) (A₀.deeper (envX name scope L a cd cl)) (noteFrame (.ref e) (envX name scope L a cd cl))
      (fun _ s₂ => wpAny (model PySem.Challenge.rw_ok0126_01.row.prog w) (A₀.deeper (envX name scope L a cd cl)) (setFlight (.ref e) none) (fun _ s₃ =>
        wpAny (model PySem.Challenge.rw_ok0126_01.row.prog w) (A₀.deeper (envX name scope L a cd cl)) (handleBy (.ref e) (envX name scope L a cd cl) (.ExceptHandler (some (.Name x np)) none (b₀ :: suite) pos :: rest)) Q E s₃) E s₂) E s' := by
  revert X
  k_fill
  intro X
  obtain ⟨B, a0, hB, hl, hfl⟩ := R
  have hL : B.get? L = none := by
    obtain ⟨_, ⟨L', _, hf, hn', _⟩, _⟩ := hfl.2.2.1
    obtain rfl : L = L' := Option.some.inj hf
    exact hn'
  refine wpAny_looks_onW (Around.frames_deeper hst) rfl hfl fun h₄ hheld₄ hsm₄ => ?_
  refine wpAny_landsW hheld₄ fun h₅ hheld hsm₅' => ?_
  have hsm₅ := hsm₄.trans hsm₅'
  have hheld' := flyingW_base hB hheld
  have F₅ := F.of_stays hheld'.1 (hsm.trans hsm₅)
  obtain ⟨ob, hob, hobc⟩ := hheld'.there
  refine wpAny_handleBy_cons (codeAny_handlers_test (nameX_K F₅ X T ex ?_ hk hx hd)) (by intro q; cases q)
  have hC := (X.keeps F₅.keep) 51 _ (by k_is)
  refine wpAny_excMatches_sub_self hC hob hobc (by decide +kernel) (codeAny_handlers_suite ?_)
  refine lands_againW hheld fun h₆ hfl₆ hsm₆ => ?_
  have F₆ := F.of_stays (flyingW_base hB hfl₆).1 ((hsm.trans hsm₅).trans hsm₆)
  exact wpAny_mono (k h₆ F₆ fun q hq => ⟨hfl₆.1 _ _ (hl q hq).1, (fun z => by have := (hl q hq).1; rw [z, hL] at this; cases this), (hl q hq).2⟩) (fun _ _ y => y) fun _ _ y => y.elim
end

section
variable {prog : Program} {w : World} {A : Around} {E : Value → Shared → Prop} {s : Shared} {env : Env} {h₀ : Heap} {x : Str} {body : List Stmt} {Q : Flow → Shared → Prop}
/-- a turn's end: the names that it does not store stand, the ledger too, and g holds -/
inductive GEnd (h₀ : Heap) (L : Addr) (x : Str) (stored : List Str) (m₀ : Str → Option Value) (need : Led) (g : Prop) (s₁ s₂ : Shared) : Prop
  | mk : ∀ h' tk m' news', (s₂ = { s₁ with heap := h', toks := tk }) → (Fr h₀ L h' m') → (News h₀ L h' news') → ((∀ p ∈ need, p ∈ news')) → ((∀ y, y ≠ x → stored.contains y = false → m' y = m₀ y)) → (g) → GEnd h₀ L x stored m₀ need g s₁ s₂
def GPost (h₀ : Heap) (L : Addr) (x : Str) (stored : List Str) (m₀ : Str → Option Value) (need : Led) (g : Prop) (s₁ : Shared) (Q : Flow → Shared → Prop) (f : Flow) (s₂ : Shared) : Prop :=
  match f with
  | .ret v => Q (.ret v) s₂
  | .brk => Q .next s₂
  | _ => GEnd h₀ L x stored m₀ need g s₁ s₂
/-- a loop over a range: G holds of the turns done -/
theorem loop_range {r : Addr} {n : Nat} {t₀ u₀ v₀ : Tok} {m₀ : Str → Option Value} {news : Led} (stored : List Str) (G : Nat → Prop)
    (hh : A.handled = none) (hr : IsRange s.heap r 0 (n : Int) 1 t₀ u₀ v₀) (hsmall : Builtin.Range.small 0 (n : Int) 1 = true) (hn : Builtin.Range.rangeSize 0 (n : Int) 1 = (n : Int)) (F : Fr h₀ env.locals s.heap m₀) (N : News h₀ env.locals s.heap news) (hG : G 0)
    (turn : ∀ (i : Nat) t (u : Str → Option Value) h tk I oI, i < n → G i → Fr h₀ env.locals h (fun y => if y = x then some (.int (i : Int) t) else if stored.contains y then u y else m₀ y) → News h₀ env.locals h ((I, oI) :: news) → (∀ p ∈ news, p.1 < I) →
      wpAny (model prog w) A (execs body env) (GPost h₀ env.locals x stored m₀ ((I, oI) :: news) (G (i + 1)) { s with heap := h, toks := tk } Q) E { s with heap := h, toks := tk })
    (done : ∀ (u : Str → Option Value) h tk, G n → Fr h₀ env.locals h (fun y => if y = x then u y else if stored.contains y then u y else m₀ y) → News h₀ env.locals h news → Q .next { s with heap := h, toks := tk }) :
    wpAny (model prog w) A (pyIter (.ref r)) (fun it s₂ => LoopAtV prog w A h₀ env x body Q E it s₂) E s := by
  refine wpAny_pyIter_range hr hsmall ?_
  have W : Walks prog w A s.heap.objs.size [s.heap.objs.size] [s.heap.objs.size] n (fun i v => i < n ∧ ∃ t, v = .int (0 + i * 1) t)
      (fun i h => IsRangeIter h s.heap.objs.size (0 + (i : Nat) * 1) ((n : Int) - (i : Nat)) 1) := (Walks.range hh _ 0 1 n).bound
  let J : Nat → (Str → Option Value) → List (Addr × Obj) → Prop := fun i m₁ news₁ => news₁ = news ∧ (∀ y, y ≠ x → stored.contains y = false → m₁ y = m₀ y) ∧ G i
  have hL : env.locals ∉ [s.heap.objs.size] := fun hm => absurd F.ns.lt ((List.mem_singleton.mp hm) ▸ Nat.lt_irrefl _)
  refine ⟨s.heap.objs.size, [s.heap.objs.size], [s.heap.objs.size], n, _, _, m₀, news, J, rfl, W, hL, ?_, ?_, (by show IsRangeIter _ _ _ _ _; rw [hn]; simpa using Heap.get?_push_size _ rfl), F.push _, (fun p hp => ⟨Heap.get?_push_of_some _ (N p hp).1, (N p hp).2⟩), ⟨rfl, fun _ _ _ => rfl, hG⟩, ?_, ?_⟩
  · intro b hb
    rw [List.mem_singleton.mp hb]
    exact next_is_new F
  · intro p hp hI
    exact absurd (Heap.lt_size (N p hp).1) ((List.mem_singleton.mp hI) ▸ Nat.lt_irrefl _)
  · rintro i v m₁ news₁ s₁ own ⟨hh', tk', rfl⟩ hin ⟨_, t, rfl⟩ ⟨rfl, hJ, hGi⟩ hoff h5 _ h7 hs F₁ N₁
    have ev : (0 : Int) + (i : Int) * 1 = (i : Int) := by omega
    have e : (fun y => if y = x then some (Value.int (0 + (i : Int) * 1) t) else m₁ y) = fun y => if y = x then some (Value.int (i : Int) t) else if stored.contains y then m₁ y else m₀ y := by
      funext y
      by_cases h1 : y = x
      · simp [h1]
      · simp only [if_neg h1]
        cases h2 : stored.contains y with
        | true => simp
        | false => simp only [Bool.false_eq_true, if_false]; exact hJ y h1 h2
    rw [e] at F₁
    have own1 : ∀ p ∈ own, p.1 = s.heap.objs.size := fun p hp => List.mem_singleton.mp (h5 p hp)
    obtain ⟨oI, hoI⟩ : ∃ o, hh'.get? s.heap.objs.size = some o := ⟨_, hs⟩
    have hI0 : h₀.get? s.heap.objs.size = none := next_is_new F
    have NI : News h₀ env.locals hh' ((s.heap.objs.size, oI) :: news₁) := fun p hp => by
      rcases List.mem_cons.mp hp with rfl | hp
      · exact N₁ _ (List.mem_append.mpr (.inl (h7 _ (.head _) hI0 oI hoI)))
      · exact N₁ p (List.mem_append.mpr (.inr hp))
    refine wpAny_mono (turn i t m₁ hh' tk' _ oI hin hGi F₁ NI fun p hp => Heap.lt_size (N p hp).1) (fun f s₂ p => ?_) fun _ _ e => e
    have fin : GEnd h₀ env.locals x stored m₀ ((s.heap.objs.size, oI) :: news₁) (G (i + 1)) { s with heap := hh', toks := tk' } s₂ → LoopStepU h₀ env.locals [s.heap.objs.size] own (J (i + 1)) { s with heap := hh', toks := tk' } .next s₂ := by
      rintro ⟨h', tk, m', news', e, F', N', hn, hm, hg⟩
      refine ⟨rfl, h', tk, m', news₁, e, F', fun p hp => ?_, hoff, rfl, hm, hg⟩
      rcases List.mem_append.mp hp with hp | hp
      · have e1 := own1 p hp
        have e2 := (N₁ p (List.mem_append.mpr (.inl hp))).1
        rw [e1] at e2
        have e3 : p = (s.heap.objs.size, oI) := Prod.ext e1 (Option.some.inj (e2.symm.trans hoI))
        rw [e3]
        exact N' _ (hn _ List.mem_cons_self)
      · exact N' p (hn p (List.mem_cons_of_mem _ hp))
    cases f with
    | ret v => exact .ret p
    | brk => exact .brk p
    | next => exact .next (fin p)
    | cont => exact .cont (fin p)
  · rintro h' tk m' news' F' N' _ ⟨rfl, hJ, hg⟩
    refine done m' h' tk hg ?_ N'
    have e : (fun y => if y = x then m' y else if stored.contains y then m' y else m₀ y) = m' := by
      funext y
      by_cases h1 : y = x
      · simp [h1]
      · simp only [if_neg h1]
        cases h2 : stored.contains y with
        | true => simp
        | false => simp only [Bool.false_eq_true, if_false]; exact (hJ y h1 h2).symm
    rw [e]
    exact F'
end

def CtR (w : World) (mean : ExcName → Option Value) (mg mb : Str → Option Value) (f : Addr) (d : Nat) (news : Led) (vs : List Value) (post : Value → Led → Prop) (rais : Prop) : Prop :=
  ∀ (dp un : Nat) (gd : Option (List Code)) (cn : Str) (cs : Scope) (a : Addr) (ccd : Value) (cl : List (Str × Addr)) (outer : List Env) (A₀ : Around) (base h₀ : Heap) (L : Addr) (m : Str → Option Value) (s : Shared) (Q E : Value → Shared → Prop),
    Below A₀ base outer h₀ → Fr h₀ L s.heap m → (hd.heap_39 w.params).In h₀ → News h₀ L s.heap news → Top hd.view_39 (looseW hd.view_39 []) mean mg mb h₀ → cs.kind = .function → dp + d < recursionLimit → un + 8 * d < cLine →
    (∀ r news' h' tk', Fr h₀ L h' m → News h₀ L h' news' → post r news' → Q r { s with heap := h', toks := tk' }) →
    (∀ e g h' tk', Fr h₀ L g m → g.UpToSlots h' → Flies base (envX cn cs L a ccd cl :: outer) e news h' → rais → E (.ref e) { s with heap := h', toks := tk' }) →
    wpAny (model PySem.Challenge.rw_ok0126_01.row.prog w) (ktrTop dp un gd cn cs L a ccd cl outer) (call (.ref f) vs) Q E s

inductive FrAt (w : World) (led : Led) (f : Addr) (W H P : Int) (xs : List (Int × Int)) : Prop
  | mk : ∀ df lc k1 k2 k3 k4 k5 k6 ki n tW tH tP vs kl, ((f, instObj 157 df) ∈ led) → ((df, frameD w k1 k2 k3 k4 k5 k6 ki (.int P tP) (.int H tH) (.int W tW) (.ref lc) n) ∈ led) → ((lc, listOf vs.toArray kl) ∈ led) → (Lk (CompAt w led) vs xs) → FrAt w led f W H P xs
theorem FrAt.mono {w : World} {a b : Led} {f : Addr} {W H P : Int} {xs : List (Int × Int)} (h : FrAt w a f W H P xs) (s : Sub a b) : FrAt w b f W H P xs := by
  obtain ⟨df, lc, k1, k2, k3, k4, k5, k6, ki, n, tW, tH, tP, vs, kl, h1, h2, h3, h4⟩ := h
  exact ⟨df, lc, k1, k2, k3, k4, k5, k6, ki, n, tW, tH, tP, vs, kl, s _ h1, s _ h2, s _ h3, h4.mono fun v x c => c.mono s⟩
def Dim (W H : Int) (xs : List (Int × Int)) : Prop := 0 ≤ W ∧ W < 1000 ∧ 0 ≤ H ∧ H < 1000 ∧ Smp xs ∧ xs.length < 100
def szw (W : Int) (xs : List (Int × Int)) (x : Int × Int) : Int := cdiv (W * x.1) (maxL (xs.map Prod.fst))
def szh (H : Int) (xs : List (Int × Int)) (x : Int × Int) : Int := cdiv (H * x.2) (maxL (xs.map Prod.snd))
def fit2 (s0 s1 : Bool) (W H : Int) (xs : List (Int × Int)) (W' H' : Int) (ys : List (Int × Int)) (x y : Int × Int) : Bool :=
  fits (szw W xs x) (szw W' ys y) s0 && fits (szh H xs x) (szh H' ys y) s1
def Lets (s0 s1 : Bool) (W H P : Int) (xs : List (Int × Int)) (W' H' P' : Int) (ys : List (Int × Int)) : Prop :=
  xs.length = ys.length ∧ P = P' ∧ ∀ (i : Nat) x y, xs[i]? = some x → ys[i]? = some y → fit2 s0 s1 W H xs W' H' ys x y = true
theorem Flies.sub {base : Heap} {l : List Env} {e : Addr} {a b : Led} {h : Heap} (R : Flies base l e a h) (s : Sub b a) : Flies base l e b h := by
  obtain ⟨B, a0, hB, hl, hf⟩ := R
  exact ⟨B, a0, hB, fun q hq => hl q (s q hq), hf⟩
theorem fits_long (i : Int) (h0 : -1000 ≤ i) (h1 : i ≤ 1000) : Builtin.Range.rangeFitsLong i = true := by
  unfold Builtin.Range.rangeFitsLong
  rw [Bool.and_eq_true, decide_eq_true_eq, decide_eq_true_eq]
  constructor <;> omega
theorem range_ok (n : Nat) (h : n < 100) : Builtin.Range.small 0 (n : Int) 1 = true ∧ Builtin.Range.rangeSize 0 (n : Int) 1 = (n : Int) := by
  have e := rangeSize_nat 0 (n : Int)
  rw [Int.sub_zero, Int.toNat_natCast] at e
  refine ⟨?_, e⟩
  unfold Builtin.Range.small
  rw [e, fits_long 0 (by omega) (by omega), fits_long n (by omega) (by omega), fits_long 1 (by omega) (by omega), if_pos (by decide), fits_long _ (by omega) (by omega), Bool.or_true]
  rfl
theorem led_len {prog : Program} {w : World} {A : Around} {E : Value → Shared → Prop} {s : Shared} {h₀ : Heap} {L l : Addr} {news : Led} {vs : List Value} {kl n : Nat} {Q : Value → Shared → Prop}
    (N : News h₀ L s.heap news) (hl : (l, listOf vs.toArray kl) ∈ news) (hn : vs.length = n) (hle : n < 100) (h : Q (.int (n : Int) (s.toks + 1)) { s with toks := s.toks + 1 + 1 }) :
    wpAny (model prog w) A (call (.builtin "len") [.ref l]) Q E s := by
  subst hn
  have hL : s.heap.IsList l vs.toArray := ⟨_, (N _ hl).1, rfl, _, rfl⟩
  refine PyProof.Rows.len_list hL ?_ ?_
  · rw [List.size_toArray]; omega
  · rw [List.size_toArray]; exact h
section
variable {w : World} {mean : ExcName → Option Value} {mg mb : Str → Option Value} {news : Led}
theorem planeF_ct {f : Addr} {W H P : Int} {xs : List (Int × Int)} {i : Int} {ti : Tok} {x : Int × Int} (hF : FrAt w news f W H P xs) (hD : Dim W H xs) (hi0 : 0 ≤ i) (hix : xs[i.toNat]? = some x) :
    Ct w mean mg mb 140 4 news [.ref f, .int i ti] (fun r n' => ∃ t k tA tB, r = .ref t ∧
      n' = (t, ({ cls := .type "tuple", data := .seq #[.int (szw W xs x) tA, .int (szh H xs x) tB] k } : Obj)) :: news ∧ ∀ p ∈ news, p.1 < t) := by
  obtain ⟨df, lc, k1, k2, k3, k4, k5, k6, ki, n, tW, tH, tP, vs, kl, h1, h2, h3, h4⟩ := hF
  obtain ⟨a1, a2, a3, a4, a5, a6⟩ := hD
  exact plane_ct f df lc k1 k2 k3 k4 k5 k6 ki _ n W H tW tH vs kl xs i ti x h1 h2 h3 h4 a5 a6 ⟨a1, a2⟩ ⟨a3, a4⟩ hi0 hix
theorem check_ct (f b st : Addr) (ks : Nat) (s0 s1 : Bool) (W H P : Int) (xs : List (Int × Int)) (W' H' P' : Int) (ys : List (Int × Int)) (hF : FrAt w news f W H P xs) (hB : FrAt w news b W' H' P' ys) (hD : Dim W H xs) (hD' : Dim W' H' ys)
    (hst : (st, ({ cls := .type "tuple", data := .seq #[.bool s0, .bool s1] ks } : Obj)) ∈ news) :
    CtR w mean mg mb 67 8 news [.ref f, .ref b, .ref st] (fun r n' => r = .none ∧ n' = news ∧ Lets s0 s1 W H P xs W' H' P' ys) (¬ Lets s0 s1 W H P xs W' H' P' ys) := by
  have hF' := hF
  have hB' := hB
  obtain ⟨df, lc, k1, k2, k3, k4, k5, k6, ki, n, tW, tH, tP, vs, kl, h1, h2, h3, h4⟩ := hF'
  obtain ⟨db, lb, j1, j2, j3, j4, j5, j6, ji, jn, uW, uH, uP, us, jl, i1, i2, i3, i4⟩ := hB'
  k_with_none
  unfold CtR
  k_fill
  intro dp un gd cn cs a ccd cl outer A₀ base h₀ L m s Q E B F X N T hk hdp hun hret hrai
  refine wpAny_call ?_
  k_with "call builtin:len" => (k_here; k_dflt (refine led_len (by k_asm) h3 h4.1 hD.2.2.2.2.2 ?_))
  k_with "call builtin:len" => (k_here; k_dflt (refine led_len (by k_asm) i3 i4.1 hD'.2.2.2.2.2 ?_))
  k_with "exec Raise some none" => (k_here; refine x_raise rfl ?_)
  k_with "call ref" => ((k_here; k_dflt (refine Ct.use (by k_asm) (by k_asm) (by k_asm) (by k_asm) (by k_asm) (by first | exact rfl | assumption) (xmake_ct _ _) (by ktr_room) (by ktr_units) ?_)); intro r9 n9 h9 tk9 F9 N9 hp9; obtain ⟨e9, t9, d9, rfl, rfl, hl9⟩ := hp9; refine ⟨_, _, _, rfl, Frag.In.keeps (by k_asm) (Fr.keep (by k_asm)), News.get (by k_asm) (List.Mem.head _), ?_⟩)
  k_with "call ref" => ((k_here; k_dflt (refine Ct.use (by k_asm) (by k_asm) (by k_asm) (by k_asm) (by k_asm) (by first | exact rfl | assumption) (planeF_ct (FrAt.mono hF (by (intro p hp; repeat (first | exact hp | refine List.mem_cons_of_mem _ ?_)))) hD (by exact Int.natCast_nonneg _) (by exact hix)) (by ktr_room) (by ktr_units) ?_)); intro r9 n9 h9 tk9 F9 N9 hp9; obtain ⟨t9, k9, a9, b9, rfl, rfl, hl9⟩ := hp9)
  k_with "call ref" => ((k_here; k_dflt (refine Ct.use (by k_asm) (by k_asm) (by k_asm) (by k_asm) (by k_asm) (by first | exact rfl | assumption) (planeF_ct (FrAt.mono hB (by (intro p hp; repeat (first | exact hp | refine List.mem_cons_of_mem _ ?_)))) hD' (by exact Int.natCast_nonneg _) (by exact hiy)) (by ktr_room) (by ktr_units) ?_)); intro r9 n9 h9 tk9 F9 N9 hp9; obtain ⟨t9, k9, a9, b9, rfl, rfl, hl9⟩ := hp9)
  k_with "call ref" => ((k_here; k_dflt (refine Ct.use (by k_asm) (by k_asm) (by k_asm) (by k_asm) (by k_asm) (by first | exact rfl | assumption) (grows_ct _ _ _ _ _) (by ktr_room) (by ktr_units) ?_)); intro r9 n9 h9 tk9 F9 N9 hp9; obtain ⟨rfl, rfl⟩ := hp9)
  k_with "pyIter ref" => (k_here; refine loop_range ["width", "height", "wide", "high"] (fun i => ∀ (j : Nat) x y, j < i → xs[j]? = some x → ys[j]? = some y → fit2 s0 s1 W H xs W' H' ys x y = true) rfl (by assumption) (range_ok _ hD.2.2.2.2.2).1 (range_ok _ hD.2.2.2.2.2).2 (by k_asm) (by k_asm) (fun j x y hj => absurd hj (Nat.not_lt_zero _)) ?_ ?_; (intro i t u h8 tk8 I oI hi hG F8 N8 l8; obtain ⟨x, hix⟩ : ∃ x, xs[i]? = some x := ⟨_, List.getElem?_eq_getElem hi⟩; obtain ⟨y, hiy⟩ : ∃ y, ys[i]? = some y := ⟨_, List.getElem?_eq_getElem (by omega)⟩); rotate_left; (intro u h8 tk8 hG F8 N8))
  k_with "leaving ref" => (k_here; refine x_leave (by k_asm) (by k_asm) (by k_asm) (all_ne_lt hl9) ?_; intro h8 R8 U8)
  (k_dflt (first | (refine' code_def ?k1 ?k2 ?k3 ?k4 ?k5 ?kA ?kF ?kK ?k6 ?k7 ?k8 ?k9 ?kB ?_ ?c2 ?c3 ?c4 ?c5; (case kA => exact rfl); (case kF => exact rfl); (case kK => first | exact rfl | assumption); (case k1 => k_asm); (case k2 => k_asm); (case k3 => k_asm); (case k4 => k_asm); (case k5 => k_asm); (case k6 => k_is); (case k7 => k_is); (case k8 => ktr_room); (case k9 => exact BindsTo.of_eq rfl); (case c5 => decide); (case kB => exact locs rfl); (case c2 => exact rfl); (case c3 => exact rfl); (case c4 => exact rfl); k_whole; intro qqg' qqL' qqh' qqFG' qqF' qqN' qqB' qqX' qqT'; (try dsimp only); (try k_lift qqB'); (try k_fold)) | (refine' code_defC ?k1 ?k2 ?k3 ?k4 ?k5 ?kA ?kF ?kK ?k6 ?k7 ?k8 ?k9 ?kB ?kD ?_ ?c2 ?c3 ?c4; (case kA => exact rfl); (case kF => exact rfl); (case kK => first | exact rfl | assumption); (case k1 => k_asm); (case k2 => k_asm); (case k3 => k_asm); (case k4 => k_asm); (case k5 => k_asm); (case k6 => k_is); (case k7 => k_is); (case k8 => ktr_room); (case k9 => exact BindsTo.of_eq rfl); (case kB => exact rfl); (case kD => decide +kernel); (case c2 => exact rfl); (case c3 => exact rfl); (case c4 => exact rfl); k_whole; intro qqg' qqL' qqh' qqtk' qqcells' qqFG' qqF' qqN' qqY' qqB' qqX' qqT' qql1; (try k_lt qql1); k_cells qqY'; (try simp only [List.cons_append, List.nil_append] at qqN'); (try dsimp only); (try k_lift qqB'); (try k_fold))); k_steps)
  · exact hrai _ _ _ _ (by assumption) U8 (Flies.sub R8 (by (intro p hp; repeat (first | exact hp | refine List.mem_cons_of_mem _ ?_)))) (fun hl => by have := hl.1; omega)
  · exact hrai _ _ _ _ (by assumption) U8 (Flies.sub R8 (by (intro p hp; repeat (first | exact hp | refine List.mem_cons_of_mem _ ?_)))) (fun hl => absurd hl.2.1 (by assumption))
  · refine hret _ _ _ _ (by k_asm) (by k_asm) ⟨rfl, rfl, by omega, by assumption, fun i x y hx hy => hG i x y ?_ hx hy⟩
    rcases Nat.lt_or_ge i xs.length with q | q
    · exact q
    · rw [List.getElem?_eq_none q] at hx; cases hx
  · refine ⟨_, _, _, _, rfl, by k_asm, by k_asm, by (intro p hp; repeat (first | exact hp | refine List.mem_cons_of_mem _ ?_)), ?_, ?_⟩
    · intro z hz1 hz2
      simp only [List.contains_cons, List.contains_nil, Bool.or_false, Bool.or_eq_false_iff, beq_eq_false_iff_ne, ne_eq] at hz2
      simp [hz1, hz2]
    · intro j x' y' hj hx' hy'
      rcases Nat.lt_or_ge j i with q | q
      · exact hG j x' y' q hx' hy'
      · have e : j = i := by omega
        subst e
        rw [hix] at hx'
        rw [hiy] at hy'
        cases hx'
        cases hy'
        rw [fit2, Bool.and_eq_true]
        exact ⟨by assumption, by assumption⟩
  · exact hrai _ _ _ _ (by assumption) U8 (Flies.sub R8 (by (intro p hp; repeat (first | exact hp | refine List.mem_cons_of_mem _ ?_)))) (fun hl => by
      have := hl.2.2 i x y hix hiy
      rw [fit2, Bool.and_eq_true] at this
      exact absurd this.2 (by rw [show fits (szh H xs x) (szh H' ys y) s1 = false from by assumption]; decide))
  · exact hrai _ _ _ _ (by assumption) U8 (Flies.sub R8 (by (intro p hp; repeat (first | exact hp | refine List.mem_cons_of_mem _ ?_)))) (fun hl => by
      have := hl.2.2 i x y hix hiy
      rw [fit2, Bool.and_eq_true] at this
      exact absurd this.1 (by rw [show fits (szw W xs x) (szw W' ys y) s0 = false from by assumption]; decide))
end

theorem sub_rot2 {x y a b c : Addr × Obj} {l : Led} : ∀ p ∈ a :: b :: c :: x :: y :: l, p ∈ x :: y :: a :: b :: c :: l := by
  intro p hp
  simp only [List.mem_cons] at hp ⊢
  rcases hp with h | h | h | h | h | h <;> simp [h]
theorem sub_rot1 {x a b c : Addr × Obj} {l : Led} : ∀ p ∈ a :: b :: c :: x :: l, p ∈ x :: a :: b :: c :: l := by
  intro p hp
  simp only [List.mem_cons] at hp ⊢
  rcases hp with h | h | h | h | h <;> simp [h]
section
variable {w : World} {mean : ExcName → Option Value} {mg mb : Str → Option Value} {news : Led}


theorem lframe_ct (sh ls : Addr) (ks kl : Nat) (W H P : Int) (tW tH tP : Tok) (vs : List Value) (xs : List (Int × Int))
    (hsh : (sh, ({ cls := .type "tuple", data := .seq #[.int W tW, .int H tH, .ref ls, .int P tP] ks } : Obj)) ∈ news) (hls : (ls, listOf vs.toArray kl) ∈ news) (hv : Lk (PairAt news) vs xs) (hle : xs.length < 100) :
    Ct w mean mg mb 199 5 news [.ref sh] (fun r n' => ∃ f, r = .ref f ∧ Sub news n' ∧ FrAt w n' f W H P xs) := by
  (( k_with_none; (k_with "eval ListComp" => (first | (k_here; lct_look; k_dflt (refine LCt.ListComp_T (F₀ := by k_asm) (by with_unfolding_all rfl) (by decide) (by rfl) (by decide) (by rfl) ?_)) | (k_here; (fail_if_success lct_look); k_dflt (refine LCg.ListComp_U (F₀ := by k_asm) (by with_unfolding_all rfl) (by decide) (by rfl) (by decide) (by rfl) ?_)))); (k_with "exec Assign cons ListComp" => (first | (k_here; lct_look; k_dflt (refine LCt.Assign_ListComp_T (F₀ := by k_asm) (by rfl) (by with_unfolding_all rfl) (by with_unfolding_all rfl) (by decide) (by rfl) (by decide) (by rfl) (by rfl) (by rfl) ?_)) | (k_here; (fail_if_success lct_look); k_dflt (refine LCg.Assign_ListComp_U (F₀ := by k_asm) (by rfl) (by with_unfolding_all rfl) (by with_unfolding_all rfl) (by decide) (by rfl) (by decide) (by rfl) (by rfl) (by rfl) ?_)))); unfold Ct; k_fill; intro dp un gd cn cs a ccd cl outer A₀ base h₀ L m s Q E B F X N T hk hdp hun hret); refine wpAny_call ?_)
  k_with "call builtin:len" => (k_here; k_dflt (refine led_len (by k_asm) (by k_mem) hv.1 hle ?_))
  k_with "call ref" => ((k_here; k_dflt (refine Ct.use (by k_asm) (by k_asm) (by k_asm) (by k_asm) (by k_asm) (by first | exact rfl | assumption) (comp_ct _ _ _ _) (by ktr_room) (by ktr_units) ?_)); intro r9 n9 h9 tk9 F9 N9 hp9; obtain ⟨c9, dc9, q1, q2, q3, q4, rfl, rfl, hl9, hl8⟩ := hp9)
  k_with "call ref" => ((k_here; k_dflt (refine Ct.use (by k_asm) (by k_asm) (by k_asm) (by k_asm) (by k_asm) (by first | exact rfl | assumption) (frame_ct _ _ _ _ _ _) (by ktr_room) (by ktr_units) ?_)); intro r9 n9 h9 tk9 F9 N9 hp9; obtain ⟨c9, dc9, q1, q2, q3, q4, q5, q6, rfl, rfl, hl9, hl8⟩ := hp9)
  k_with "subscriptTail Name Name ref int" => (k_here; k_dflt (refine led_item (by k_asm) (by k_mem) (by omega) (by omega) hvi' ?_))
  k_with "CompSrc" => (refine Blk.out ?_)
  (k_dflt (first | (refine' code_def ?k1 ?k2 ?k3 ?k4 ?k5 ?kA ?kF ?kK ?k6 ?k7 ?k8 ?k9 ?kB ?_ ?c2 ?c3 ?c4 ?c5; (case kA => exact rfl); (case kF => exact rfl); (case kK => first | exact rfl | assumption); (case k1 => k_asm); (case k2 => k_asm); (case k3 => k_asm); (case k4 => k_asm); (case k5 => k_asm); (case k6 => k_is); (case k7 => k_is); (case k8 => ktr_room); (case k9 => exact BindsTo.of_eq rfl); (case c5 => decide); (case kB => exact locs rfl); (case c2 => exact rfl); (case c3 => exact rfl); (case c4 => exact rfl); k_whole; intro qqg' qqL' qqh' qqFG' qqF' qqN' qqB' qqX' qqT'; (try dsimp only); (try k_lift qqB'); (try k_fold)) | (refine' code_defC ?k1 ?k2 ?k3 ?k4 ?k5 ?kA ?kF ?kK ?k6 ?k7 ?k8 ?k9 ?kB ?kD ?_ ?c2 ?c3 ?c4; (case kA => exact rfl); (case kF => exact rfl); (case kK => first | exact rfl | assumption); (case k1 => k_asm); (case k2 => k_asm); (case k3 => k_asm); (case k4 => k_asm); (case k5 => k_asm); (case k6 => k_is); (case k7 => k_is); (case k8 => ktr_room); (case k9 => exact BindsTo.of_eq rfl); (case kB => exact rfl); (case kD => decide +kernel); (case c2 => exact rfl); (case c3 => exact rfl); (case c4 => exact rfl); k_whole; intro qqg' qqL' qqh' qqtk' qqcells' qqFG' qqF' qqN' qqY' qqB' qqX' qqT' qql1; (try k_lt qql1); k_cells qqY'; (try simp only [List.cons_append, List.nil_append] at qqN'); (try dsimp only); (try k_lift qqB'); (try k_fold))); k_steps)
  refine Blk.mk ?_
  refine LCg.CompSrc.range (n := xs.length) rfl (by k_asm) (by k_asm) (by assumption) (range_ok _ hle).1 (range_ok _ hle).2 (by rw [sizeLine_eq]; omega) (fun g9 => compRest_inv (n := xs.length) (fun i ys led => Sub _ led ∧ Lk (CompAt w led) ys (xs.take i)) ?_ ?_ _ 0 [] _ (Nat.zero_add _) rfl ⟨fun p hp => hp, .nil⟩)
  · intro i ys led v I oI C oC D m₂ h8 tk8 E' hi hl hj hP hC hx F8 N8 off8 ne8
    obtain ⟨hsub, hlk⟩ := hj
    obtain ⟨t8, rfl⟩ := hP
    obtain ⟨x, hxi⟩ : ∃ x, xs[i]? = some x := ⟨_, List.getElem?_eq_getElem hi⟩
    obtain ⟨v', hvi⟩ : ∃ v', vs[i]? = some v' := ⟨_, List.getElem?_eq_getElem (hv.1.symm ▸ hi)⟩
    obtain ⟨tt, kk, tA, tB, rfl, hpm⟩ := hv.2 i _ x hvi hxi
    have hvi' : vs[((0 : Int) + (i : Int)).toNat]? = some (.ref tt) := by rw [show ((0 : Int) + (i : Int)).toNat = i by omega]; exact hvi
    have hls8 := hsub _ (List.mem_cons_of_mem _ hls)
    have hpm8 := hsub _ (List.mem_cons_of_mem _ hpm)
    have hcl8 := hsub _ (.head _)
    k_with "subscriptTail Name Name ref int" => (k_here; k_dflt (refine led_item (by k_asm) (by k_mem) (by omega) (by omega) hvi' ?_))
    k_with "call ref" => ((k_here; k_dflt (refine Ct.use (by k_asm) (by k_asm) (by k_asm) (by k_asm) (by k_asm) (by first | exact rfl | assumption) (comp_ct _ _ _ _) (by ktr_room) (by ktr_units) ?_)); intro r9 n9 h9 tk9 F9 N9 hp9; obtain ⟨c9, dc9, q1, q2, q3, q4, rfl, rfl, hl9, hl8⟩ := hp9)
    k_steps
    have e1 := hl9 _ (.head _)
    have e2 := hl9 _ (.tail _ (.head _))
    have e3 := hl9 _ (.tail _ (.tail _ (.head _)))
    refine LCg.CompEnd.intro F9 N9 ((c9, _) :: (dc9, _) :: led) sub_rot2 ⟨⟨Nat.ne_of_gt (Nat.lt_trans e1 hl8), Nat.ne_of_gt (Nat.lt_trans e2 hl8), Nat.ne_of_gt (Nat.lt_trans e3 hl8)⟩, ⟨Nat.ne_of_gt e1, Nat.ne_of_gt e2, Nat.ne_of_gt e3⟩, off8⟩ trivial ⟨fun p hp => .tail _ (.tail _ (hsub p hp)), ?_⟩
    rw [take_snoc hxi]
    exact Lk.snoc (hlk.mono fun v x c => c.mono fun p hp => .tail _ (.tail _ hp)) ⟨c9, dc9, q1, q2, q3, q4, _, _, tA, tB, rfl, .head _, .tail _ (.head _)⟩
  · intro ys led hl hj
    obtain ⟨hsub, hlk⟩ := hj
    unfold LCg.FinA
    intro D h8 tk8 F8 N8 o8
    k_with "call ref" => ((k_here; k_dflt (refine Ct.use (by k_asm) (by k_asm) (by k_asm) (by k_asm) (by k_asm) (by first | exact rfl | assumption) (frame_ct _ _ _ _ _ _) (by ktr_room) (by ktr_units) ?_)); intro r9 n9 h9 tk9 F9 N9 hp9; obtain ⟨c9, dc9, q1, q2, q3, q4, q5, q6, rfl, rfl, hl9, hl8⟩ := hp9)
    k_steps
    refine hret _ _ _ _ (by k_asm) (by k_asm) ⟨c9, rfl, fun p hp => .tail _ (.tail _ (.tail _ (hsub _ (.tail _ hp)))), dc9, D, q1, q2, q3, q4, q5, q6, _, _, tW, tH, tP, ys, ys.length, .head _, .tail _ (.head _), .tail _ (.tail _ (.head _)), ?_⟩
    rw [List.take_length] at hlk
    exact hlk.mono fun v x c => c.mono fun p hp => .tail _ (.tail _ (.tail _ hp))
end

/-- a tuple of three ints, the last nought -/
inductive TripAt (led : Led) (v : Value) (x : Int × Int) : Prop
  | mk : ∀ t k tA tB tC, (v = .ref t) → ((t, ({ cls := .type "tuple", data := .seq #[.int x.1 tA, .int x.2 tB, .int 0 tC] k } : Obj)) ∈ led) → TripAt led v x
theorem TripAt.mono {a b : Led} {v : Value} {x : Int × Int} (h : TripAt a v x) (s : Sub a b) : TripAt b v x := by
  obtain ⟨t, k, tA, tB, tC, e, h1⟩ := h
  exact ⟨t, k, tA, tB, tC, e, s _ h1⟩
inductive RowAt (led : Led) (v : Value) (W H P : Int) (xs : List (Int × Int)) : Prop
  | mk : ∀ t k l kl ys tW tH tP, (v = .ref t) → ((t, ({ cls := .type "tuple", data := .seq #[.int W tW, .int H tH, .int P tP, .ref l] k } : Obj)) ∈ led) → ((l, listOf ys.toArray kl) ∈ led) → (Lk (TripAt led) ys xs) → RowAt led v W H P xs
theorem RowAt.mono {a b : Led} {v : Value} {W H P : Int} {xs : List (Int × Int)} (h : RowAt a v W H P xs) (s : Sub a b) : RowAt b v W H P xs := by
  obtain ⟨t, k, l, kl, ys, tW, tH, tP, e, h1, h2, h3⟩ := h
  exact ⟨t, k, l, kl, ys, tW, tH, tP, e, s _ h1, s _ h2, h3.mono fun v x c => c.mono s⟩
section
variable {w : World} {mean : ExcName → Option Value} {mg mb : Str → Option Value} {news : Led}
theorem lrow_ct (f : Addr) (W H P : Int) (xs : List (Int × Int)) (hF : FrAt w news f W H P xs) (hle : xs.length < 100) :
    Ct w mean mg mb 204 4 news [.ref f] (fun r n' => Sub news n' ∧ RowAt n' r W H P xs) := by
  obtain ⟨df, lc, k1, k2, k3, k4, k5, k6, ki, n, tW, tH, tP, vs, kl, h1, h2, h3, h4⟩ := hF
  (( k_with_none; (k_with "eval ListComp" => (first | (k_here; lct_look; k_dflt (refine LCt.ListComp_T (F₀ := by k_asm) (by with_unfolding_all rfl) (by decide) (by rfl) (by decide) (by rfl) ?_)) | (k_here; (fail_if_success lct_look); k_dflt (refine LCg.ListComp_U (F₀ := by k_asm) (by with_unfolding_all rfl) (by decide) (by rfl) (by decide) (by rfl) ?_)))); (k_with "exec Assign cons ListComp" => (first | (k_here; lct_look; k_dflt (refine LCt.Assign_ListComp_T (F₀ := by k_asm) (by rfl) (by with_unfolding_all rfl) (by with_unfolding_all rfl) (by decide) (by rfl) (by decide) (by rfl) (by rfl) (by rfl) ?_)) | (k_here; (fail_if_success lct_look); k_dflt (refine LCg.Assign_ListComp_U (F₀ := by k_asm) (by rfl) (by with_unfolding_all rfl) (by with_unfolding_all rfl) (by decide) (by rfl) (by decide) (by rfl) (by rfl) (by rfl) ?_)))); unfold Ct; k_fill; intro dp un gd cn cs a ccd cl outer A₀ base h₀ L m s Q E B F X N T hk hdp hun hret); refine wpAny_call ?_)
  k_with "CompSrc" => (refine Blk.out ?_)
  (k_dflt (first | (refine' code_def ?k1 ?k2 ?k3 ?k4 ?k5 ?kA ?kF ?kK ?k6 ?k7 ?k8 ?k9 ?kB ?_ ?c2 ?c3 ?c4 ?c5; (case kA => exact rfl); (case kF => exact rfl); (case kK => first | exact rfl | assumption); (case k1 => k_asm); (case k2 => k_asm); (case k3 => k_asm); (case k4 => k_asm); (case k5 => k_asm); (case k6 => k_is); (case k7 => k_is); (case k8 => ktr_room); (case k9 => exact BindsTo.of_eq rfl); (case c5 => decide); (case kB => exact locs rfl); (case c2 => exact rfl); (case c3 => exact rfl); (case c4 => exact rfl); k_whole; intro qqg' qqL' qqh' qqFG' qqF' qqN' qqB' qqX' qqT'; (try dsimp only); (try k_lift qqB'); (try k_fold)) | (refine' code_defC ?k1 ?k2 ?k3 ?k4 ?k5 ?kA ?kF ?kK ?k6 ?k7 ?k8 ?k9 ?kB ?kD ?_ ?c2 ?c3 ?c4; (case kA => exact rfl); (case kF => exact rfl); (case kK => first | exact rfl | assumption); (case k1 => k_asm); (case k2 => k_asm); (case k3 => k_asm); (case k4 => k_asm); (case k5 => k_asm); (case k6 => k_is); (case k7 => k_is); (case k8 => ktr_room); (case k9 => exact BindsTo.of_eq rfl); (case kB => exact rfl); (case kD => decide +kernel); (case c2 => exact rfl); (case c3 => exact rfl); (case c4 => exact rfl); k_whole; intro qqg' qqL' qqh' qqtk' qqcells' qqFG' qqF' qqN' qqY' qqB' qqX' qqT' qql1; (try k_lt qql1); k_cells qqY'; (try simp only [List.cons_append, List.nil_append] at qqN'); (try dsimp only); (try k_lift qqB'); (try k_fold))); k_steps)
  refine Blk.mk ?_
  refine LCg.CompSrc.ledger (its := vs.toArray) rfl (by k_asm) (by k_asm) (by assumption) ?_ (fun g9 => compRest_inv (n := vs.toArray.size) (fun i ys led => Sub news led ∧ Lk (TripAt led) ys (xs.take i)) ?_ ?_ _ 0 [] news (Nat.zero_add _) rfl ⟨fun p hp => hp, .nil⟩)
  · rw [List.size_toArray, h4.1, sizeLine_eq]; omega
  · intro i ys led v I oI C oC D m₂ h8 tk8 E' hi hl hj hP hC hx F8 N8 off8 ne8
    obtain ⟨hsub, hlk⟩ := hj
    have hv : vs[i]? = some v := by simpa using hP
    obtain ⟨x, hxi, c, dc, q1, q2, q3, q4, j, q, tA, tD, rfl, g1, g2⟩ := h4.get hv
    have g3 := hsub _ g1
    have g4 := hsub _ g2
    have g5 := hsub _ h3
    k_steps
    rename_i D9 h9 F9 N9 l9
    obtain ⟨e1, e2, e3, _⟩ := l9
    refine LCg.CompEnd.intro F9 N9 ((D9, _) :: led) sub_rot1 ⟨⟨Nat.ne_of_gt e1, Nat.ne_of_gt e2, Nat.ne_of_gt e3⟩, off8⟩ (Or.inr ⟨_, .tail _ g5, rfl, _, rfl⟩) ⟨fun p hp => .tail _ (hsub p hp), ?_⟩
    rw [take_snoc hxi]
    exact Lk.snoc (hlk.mono fun v x c => c.mono fun p hp => .tail _ hp) ⟨D9, _, tA, tD, q, rfl, .head _⟩
  · intro ys led hl hj
    obtain ⟨hsub, hlk⟩ := hj
    unfold LCg.FinE
    intro D h8 tk8 F8 N8 o8
    have g1 := hsub _ h1
    have g2 := hsub _ h2
    k_steps
    refine hret _ _ _ _ (by k_asm) (by k_asm) ⟨fun p hp => .tail _ (.tail _ (hsub p hp)), _, _, D, _, ys, tW, tH, tP, rfl, .head _, .tail _ (.head _), ?_⟩
    rw [List.size_toArray, h4.1, List.take_length] at hlk
    exact hlk.mono fun v x c => c.mono fun p hp => .tail _ (.tail _ hp)
end

def Apart (a b : Led) : Prop := ∀ p ∈ a, ∀ q ∈ b, p.1 ≠ q.1
inductive JPair {α : Type} (f : α → Int × Int) (xs : List α) (base : Led) (i : Nat) (ys : List Value) (led : Led) : Prop
  | mk : ∀ new, (led = new ++ base) → (Apart new base) → (Lk (PairAt new) ys ((xs.take i).map f)) → JPair f xs base i ys led
theorem allLt_all {d : Addr} : ∀ {l : Led}, AllLt d l → ∀ p ∈ l, p.1 < d
  | [], _, _, hp => nomatch hp
  | _ :: _, h, p, hp => by
    rcases List.mem_cons.mp hp with e | hp
    · rw [e]; exact h.1
    · exact allLt_all h.2 p hp
theorem off1_all {d : Addr} : ∀ {l : Led}, LCg.Off1 d l → ∀ p ∈ l, p.1 ≠ d
  | [], _, _, hp => nomatch hp
  | _ :: _, h, p, hp => by
    rcases List.mem_cons.mp hp with e | hp
    · rw [e]; exact h.1
    · exact off1_all h.2 p hp
section
variable {w : World} {mean : ExcName → Option Value} {mg mb : Str → Option Value} {news : Led}
theorem lsizes_ct (sh ls : Addr) (ks kl : Nat) (W H P : Int) (tW tH tP : Tok) (vs : List Value) (xs : List (Int × Int))
    (hsh : (sh, ({ cls := .type "tuple", data := .seq #[.int W tW, .int H tH, .ref ls, .int P tP] ks } : Obj)) ∈ news) (hls : (ls, listOf vs.toArray kl) ∈ news) (hv : Lk (PairAt news) vs xs) (hD : Dim W H xs) (hne : 0 < xs.length) :
    Ct w mean mg mb 187 5 news [.ref sh] (fun r n' => ∃ l k ys new, r = .ref l ∧ n' = new ++ news ∧ Apart new news ∧ (l, listOf ys.toArray k) ∈ new ∧ Lk (PairAt new) ys (xs.map fun x => (szw W xs x, szh H xs x))) := by
  have hle := hD.2.2.2.2.2
  (( k_with_none; (k_with "eval ListComp" => (first | (k_here; lct_look; k_dflt (refine LCt.ListComp_T (F₀ := by k_asm) (by with_unfolding_all rfl) (by decide) (by rfl) (by decide) (by rfl) ?_)) | (k_here; (fail_if_success lct_look); k_dflt (refine LCg.ListComp_U (F₀ := by k_asm) (by with_unfolding_all rfl) (by decide) (by rfl) (by decide) (by rfl) ?_)))); (k_with "exec Assign cons ListComp" => (first | (k_here; lct_look; k_dflt (refine LCt.Assign_ListComp_T (F₀ := by k_asm) (by rfl) (by with_unfolding_all rfl) (by with_unfolding_all rfl) (by decide) (by rfl) (by decide) (by rfl) (by rfl) (by rfl) ?_)) | (k_here; (fail_if_success lct_look); k_dflt (refine LCg.Assign_ListComp_U (F₀ := by k_asm) (by rfl) (by with_unfolding_all rfl) (by with_unfolding_all rfl) (by decide) (by rfl) (by decide) (by rfl) (by rfl) (by rfl) ?_)))); unfold Ct; k_fill; intro dp un gd cn cs a ccd cl outer A₀ base h₀ L m s Q E B F X N T hk hdp hun hret); refine wpAny_call ?_)
  k_with "CompSrc" => (refine Blk.out ?_)
  (k_dflt (first | (refine' code_def ?k1 ?k2 ?k3 ?k4 ?k5 ?kA ?kF ?kK ?k6 ?k7 ?k8 ?k9 ?kB ?_ ?c2 ?c3 ?c4 ?c5; (case kA => exact rfl); (case kF => exact rfl); (case kK => first | exact rfl | assumption); (case k1 => k_asm); (case k2 => k_asm); (case k3 => k_asm); (case k4 => k_asm); (case k5 => k_asm); (case k6 => k_is); (case k7 => k_is); (case k8 => ktr_room); (case k9 => exact BindsTo.of_eq rfl); (case c5 => decide); (case kB => exact locs rfl); (case c2 => exact rfl); (case c3 => exact rfl); (case c4 => exact rfl); k_whole; intro qqg' qqL' qqh' qqFG' qqF' qqN' qqB' qqX' qqT'; (try dsimp only); (try k_lift qqB'); (try k_fold)) | (refine' code_defC ?k1 ?k2 ?k3 ?k4 ?k5 ?kA ?kF ?kK ?k6 ?k7 ?k8 ?k9 ?kB ?kD ?_ ?c2 ?c3 ?c4; (case kA => exact rfl); (case kF => exact rfl); (case kK => first | exact rfl | assumption); (case k1 => k_asm); (case k2 => k_asm); (case k3 => k_asm); (case k4 => k_asm); (case k5 => k_asm); (case k6 => k_is); (case k7 => k_is); (case k8 => ktr_room); (case k9 => exact BindsTo.of_eq rfl); (case kB => exact rfl); (case kD => decide +kernel); (case c2 => exact rfl); (case c3 => exact rfl); (case c4 => exact rfl); k_whole; intro qqg' qqL' qqh' qqtk' qqcells' qqFG' qqF' qqN' qqY' qqB' qqX' qqT' qql1; (try k_lt qql1); k_cells qqY'; (try simp only [List.cons_append, List.nil_append] at qqN'); (try dsimp only); (try k_lift qqB'); (try k_fold))); k_steps)
  refine Blk.mk ?_
  refine LCg.CompSrc.ledger (its := vs.toArray) rfl (by k_asm) (by k_asm) (by k_mem) ?_ (fun g9 => compRest_inv (n := vs.toArray.size) (fun i ys led => led = _ ∧ IntsAre ys ((xs.take i).map Prod.fst)) ?_ ?_ _ 0 [] _ (Nat.zero_add _) rfl ⟨rfl, .nil⟩)
  · rw [List.size_toArray, hv.1, sizeLine_eq]; omega
  · intro i ys led v I oI C oC D m₂ h8 tk8 E' hi hl hj hP hC hx' F8 N8 off8 ne8
    obtain ⟨rfl, hints⟩ := hj
    have hv8 : vs[i]? = some v := by simpa using hP
    obtain ⟨x, hxi, tt, kk, tA, tB, rfl, hpm⟩ := hv.get hv8
    k_steps
    exact LCg.CompEnd.intro (by k_asm) N8 _ (fun p hp => hp) off8 (Or.inr ⟨_, by k_mem, rfl, _, rfl⟩) ⟨rfl, by rw [take_snoc hxi, List.map_append]; exact IntsAre.append hints (.cons _ _ .nil)⟩
  intro ys led hl hj
  obtain ⟨rfl, hints⟩ := hj
  unfold LCg.FinE
  intro D h8 tk8 F8 N8 o8
  simp only [LCg.Off1] at o8
  have d1 := Ne.symm o8.1
  have d2 := Ne.symm o8.2.1
  have d3 := Ne.symm o8.2.2.1
  have d4 := Ne.symm o8.2.2.2.1
  have hD8 : h8.IsList D ys.toArray := ⟨_, (N8 _ (.head _)).1, rfl, _, rfl⟩
  rw [List.size_toArray, hv.1, List.take_length] at hints
  have hn8 : 0 < (xs.map Prod.fst).length := by simpa using hne
  k_steps
  have hpos : ∀ a ∈ xs.map Prod.fst, 0 < a := fun a ha => by
    obtain ⟨x, hx9, rfl⟩ := List.mem_map.mp ha
    have := hD.2.2.2.2.1 x hx9
    omega
  have e9 := maxL_eq (by assumption) (by assumption) hpos
  subst e9
  refine Blk.mk ?_
  refine LCg.CompSrc.ledger (its := vs.toArray) rfl (by k_asm) (by k_asm) (by k_mem) ?_ (fun g9 => compRest_inv (n := vs.toArray.size) (fun i ys led => led = _ ∧ IntsAre ys ((xs.take i).map Prod.snd)) ?_ ?_ _ 0 [] _ (Nat.zero_add _) rfl ⟨rfl, .nil⟩)
  · rw [List.size_toArray, hv.1, sizeLine_eq]; omega
  · intro i ys led v I oI C oC D m₂ h8 tk8 E' hi hl hj hP hC hx' F8 N8 off8 ne8
    obtain ⟨rfl, hints⟩ := hj
    have hv8 : vs[i]? = some v := by simpa using hP
    obtain ⟨x, hxi, tt, kk, tA, tB, rfl, hpm⟩ := hv.get hv8
    k_steps
    exact LCg.CompEnd.intro (by k_asm) N8 _ (fun p hp => hp) off8 (Or.inr ⟨_, by k_mem, rfl, _, rfl⟩) ⟨rfl, by rw [take_snoc hxi, List.map_append]; exact IntsAre.append hints (.cons _ _ .nil)⟩
  intro ys led hl hj
  obtain ⟨rfl, hints⟩ := hj
  unfold LCg.FinE
  intro D h8 tk8 F8 N8 o8
  simp only [LCg.Off1] at o8
  have d5 := Ne.symm o8.2.1
  have d6 := Ne.symm o8.2.2.1
  have d7 := Ne.symm o8.2.2.2.1
  have d8 := Ne.symm o8.2.2.2.2.1
  have d9 := o8.1
  have d0 := Ne.symm o8.1
  have hD8 : h8.IsList D ys.toArray := ⟨_, (N8 _ (.head _)).1, rfl, _, rfl⟩
  rw [List.size_toArray, hv.1, List.take_length] at hints
  have hn8 : 0 < (xs.map Prod.snd).length := by simpa using hne
  k_steps
  have hpos : ∀ a ∈ xs.map Prod.snd, 0 < a := fun a ha => by
    obtain ⟨x, hx9, rfl⟩ := List.mem_map.mp ha
    have := hD.2.2.2.2.1 x hx9
    omega
  have e9 := maxL_eq (by assumption) (by assumption) hpos
  subst e9
  refine Blk.mk ?_
  have hm := maxL_12 hD.2.2.2.2.1 (List.ne_nil_of_length_pos hne)
  refine LCg.CompSrc.ledger (its := vs.toArray) rfl (by k_asm) (by k_asm) (by k_mem) ?_ (fun g9 => compRest_inv (n := vs.toArray.size) (JPair (fun x => (szw W xs x, szh H xs x)) xs _) ?_ ?_ _ 0 [] _ (Nat.zero_add _) rfl ⟨[], rfl, (fun p hp => nomatch hp), .nil⟩)
  · rw [List.size_toArray, hv.1, sizeLine_eq]; omega
  · intro i ys led v I oI C oC D m₂ h8 tk8 E' hi hl hj hP hC hx' F8 N8 off8 ne8
    obtain ⟨new, rfl, hap, hlk⟩ := hj
    have hv8 : vs[i]? = some v := by simpa using hP
    obtain ⟨x, hxi, tt, kk, tA, tB, rfl, hpm⟩ := hv.get hv8
    have hx12 := hD.2.2.2.2.1 x (List.mem_of_getElem? hxi)
    k_with "call ref" => ((k_here; k_dflt (refine Ct.use (by k_asm) (by k_asm) (by k_asm) (by k_asm) (by k_asm) (by first | exact rfl | assumption) (part_ct W x.1 (maxL (xs.map Prod.fst)) _ _ _ hD.1 hD.2.1 hx12.1 hm.1) (by ktr_room) (by ktr_units) ?_)); intro r9 n9 h9 tk9 F9 N9 hp9; obtain ⟨⟨t9, rfl⟩, rfl⟩ := hp9)
    k_with "call ref" => ((k_here; k_dflt (refine Ct.use (by k_asm) (by k_asm) (by k_asm) (by k_asm) (by k_asm) (by first | exact rfl | assumption) (part_ct H x.2 (maxL (xs.map Prod.snd)) _ _ _ hD.2.2.1 hD.2.2.2.1 hx12.2 hm.2) (by ktr_room) (by ktr_units) ?_)); intro r9 n9 h9 tk9 F9 N9 hp9; obtain ⟨⟨t9, rfl⟩, rfl⟩ := hp9)
    k_steps
    rename_i D9 h9 F9 N9 l9
    obtain ⟨e1, e2, e3, e4⟩ := l9
    refine LCg.CompEnd.intro F9 N9 ((D9, _) :: (new ++ _)) sub_rot1 ⟨⟨Nat.ne_of_gt e1, Nat.ne_of_gt e2, Nat.ne_of_gt e3⟩, off8⟩ (Or.inr ⟨_, by k_mem, rfl, _, rfl⟩) ⟨(D9, _) :: new, rfl, ?_, ?_⟩
    · intro p hp q hq
      rcases List.mem_cons.mp hp with rfl | hp
      · exact Nat.ne_of_gt (allLt_all e4 q (List.mem_append_right _ hq))
      · exact hap p hp q hq
    · rw [take_snoc hxi, List.map_append]
      exact Lk.snoc (hlk.mono fun v x c => c.mono fun p hp => .tail _ hp) ⟨D9, _, _, _, rfl, .head _⟩
  intro ys led hl hj
  obtain ⟨new, rfl, hap, hlk⟩ := hj
  unfold LCg.FinE
  intro D h8 tk8 F8 N8 o8
  k_steps
  rename News h₀ L _ (_ :: (new ++ _)) => kN
  refine hret _ (((D, LCg.lst ys) :: new) ++ news) _ _ (by k_asm) (cb_drop kN fun p hp => ?_) ⟨D, _, ys, (D, LCg.lst ys) :: new, rfl, rfl, ?_, .head _, ?_⟩
  · rcases List.mem_append.mp hp with hp | hp
    · rcases List.mem_cons.mp hp with rfl | hp
      · exact .head _
      · exact .tail _ (List.mem_append_left _ hp)
    · exact .tail _ (List.mem_append_right _ (by repeat (first | exact hp | refine List.mem_cons_of_mem _ ?_)))
  · intro p hp q hq
    rcases List.mem_cons.mp hp with rfl | hp
    · exact Ne.symm (off1_all o8 q (List.mem_append_right _ (by repeat (first | exact hq | refine List.mem_cons_of_mem _ ?_))))
    · exact hap p hp q (by repeat (first | exact hq | refine List.mem_cons_of_mem _ ?_))
  · rw [List.size_toArray, hv.1, List.take_length] at hlk
    exact hlk.mono fun v x c => c.mono fun p hp => .tail _ hp
end

theorem pen_start {x g : Int} {n : Nat} (hx : 0 ≤ x) (hn : n ≤ 63) : PenOk x (g.fmod 2147483587 * 31 + 7 * (n : Int) + 5) := by
  have := fmod_rng g 2147483587 (by decide)
  refine ⟨hx, ?_, ?_⟩ <;> omega
section
variable {w : World} {mean : ExcName → Option Value} {mg mb : Str → Option Value} {news : Led}
theorem lpen_ct (l : Addr) (vs : List Value) (ns : List Int) (hi : IntsAre vs ns) (hle : ns.length ≤ 63) :
  ∀ (dp un : Nat) (gd : Option (List Code)) (cn : Str) (cs : Scope) (a : Addr) (ccd : Value) (cl : List (Str × Addr)) (outer : List Env) (A₀ : Around) (base h₀ : Heap) (L : Addr) (m : Str → Option Value) (s : Shared) (Q E : Value → Shared → Prop),
    Below A₀ base outer h₀ → Fr h₀ L s.heap m → (hd.heap_39 w.params).In h₀ → News h₀ L s.heap news → Top hd.view_39 (looseW hd.view_39 []) mean mg mb h₀ → cs.kind = .function → dp + 2 < recursionLimit → un + 8 * 2 < cLine →
    base.IsList l vs.toArray →
    (∀ p x y tx ty k h' tk', Fr h₀ L h' m → News h₀ L h' ((p, listOf #[.int x tx, .int y ty] k) :: news) → PenOk x y → (∀ q ∈ news, q.1 < p) → Q (.ref p) { s with heap := h', toks := tk' }) →
    wpAny (model PySem.Challenge.rw_ok0126_01.row.prog w) (ktrTop dp un gd cn cs L a ccd cl outer) (call (.ref 168) [.ref l]) Q E s := by
  k_with_none
  k_fill
  intro dp un gd cn cs a ccd cl outer A₀ base h₀ L m s Q E B F X N T hk hdp hun hl hret
  refine wpAny_call ?_
  have hfit : ns.length < 2 ^ 62 := by omega
  (k_dflt (first | (refine' code_def ?k1 ?k2 ?k3 ?k4 ?k5 ?kA ?kF ?kK ?k6 ?k7 ?k8 ?k9 ?kB ?_ ?c2 ?c3 ?c4 ?c5; (case kA => exact rfl); (case kF => exact rfl); (case kK => first | exact rfl | assumption); (case k1 => k_asm); (case k2 => k_asm); (case k3 => k_asm); (case k4 => k_asm); (case k5 => k_asm); (case k6 => k_is); (case k7 => k_is); (case k8 => ktr_room); (case k9 => exact BindsTo.of_eq rfl); (case c5 => decide); (case kB => exact locs rfl); (case c2 => exact rfl); (case c3 => exact rfl); (case c4 => exact rfl); k_whole; intro qqg' qqL' qqh' qqFG' qqF' qqN' qqB' qqX' qqT'; (try dsimp only); (try k_lift qqB'); (try k_fold)) | (refine' code_defC ?k1 ?k2 ?k3 ?k4 ?k5 ?kA ?kF ?kK ?k6 ?k7 ?k8 ?k9 ?kB ?kD ?_ ?c2 ?c3 ?c4; (case kA => exact rfl); (case kF => exact rfl); (case kK => first | exact rfl | assumption); (case k1 => k_asm); (case k2 => k_asm); (case k3 => k_asm); (case k4 => k_asm); (case k5 => k_asm); (case k6 => k_is); (case k7 => k_is); (case k8 => ktr_room); (case k9 => exact BindsTo.of_eq rfl); (case kB => exact rfl); (case kD => decide +kernel); (case c2 => exact rfl); (case c3 => exact rfl); (case c4 => exact rfl); k_whole; intro qqg' qqL' qqh' qqtk' qqcells' qqFG' qqF' qqN' qqY' qqB' qqX' qqT' qql1; (try k_lt qql1); k_cells qqY'; (try simp only [List.cons_append, List.nil_append] at qqN'); (try dsimp only); (try k_lift qqB'); (try k_fold))); k_steps)
  all_goals refine hret _ _ _ _ _ _ _ _ (by k_asm) (by k_asm) (pen_start ?_ hle) ?_
  all_goals first | assumption | exact Int.le_refl 0 | (split <;> omega)
end

section
variable {prog : Program} {w : World} {A : Around} {E : Value → Shared → Prop} {s : Shared} {h₀ : Heap} {L : Addr} {m : Str → Option Value} {env : Env}
/-- a comprehension with a test, by what holds of its first turns' values and of the ledger -/
theorem compRestT_inv {ct elt : PySem.Expr} {x : Str} {scope : Scope} {cl : List (Str × Addr)} {S : Led → Prop} {P : Nat → Value → Prop} {Fin : List Value → Led → Prop} {n : Nat} (J : Nat → List Value → Led → Prop)
    (step : ∀ i ys led v I oI C oC D m₂ h tk (E' : Value → Shared → Prop), i < n → J i ys led → P i v → LCg.NsObj oC m₂ → m₂ x = some v → Fr h₀ L h m → News h₀ L h ((I, oI) :: (C, oC) :: (D, LCg.lst ys) :: led) →
      LCg.Off3 I C D led → ((@Ne Nat I C) ∧ (@Ne Nat I D) ∧ (@Ne Nat C D)) →
      wpAny (model prog w) A (isTrue ct (compEnvC scope cl C env) (eval ct (compEnvC scope cl C env))) (fun ok s' => if ok = true then
        wpAny (model prog w) A (eval elt (compEnvC scope cl C env)) (LCg.CompEnd h₀ L m { s with heap := h, toks := tk } I oI C oC D (LCg.lst ys) S (fun y led' => J (i + 1) (ys ++ [y]) led')) E' s'
        else LCg.CompEnd h₀ L m { s with heap := h, toks := tk } I oI C oC D (LCg.lst ys) S (fun _ led' => J (i + 1) ys led') Value.none s') E' { s with heap := h, toks := tk })
    (fin : ∀ ys led, J n ys led → Fin ys led) :
    ∀ k i ys led, i + k = n → J i ys led → LCt.CompRestT prog w A h₀ L m env ct elt x scope cl s S P Fin k i ys led := by
  intro k
  induction k with
  | zero =>
    intro i ys led hn hj
    have hi : i = n := hn
    subst hi
    exact LCt.CompRestT.zero (fin ys led hj)
  | succ k ih =>
    intro i ys led hn hj
    refine LCt.CompRestT.succ fun v I oI C oC D m₂ h tk E' hP hC hx F N off ne => ?_
    refine wpAny_mono (step i ys led v I oI C oC D m₂ h tk E' (by omega) hj hP hC hx F N off ne) (fun ok s₂ he => ?_) fun _ _ e => e
    cases ok with
    | true =>
      rw [if_pos rfl] at he ⊢
      refine wpAny_mono he (fun y s₃ he => ?_) fun _ _ e => e
      obtain ⟨h', tk', led', e, F', N', off', hS, hj'⟩ := he
      exact ⟨h', tk', led', e, F', N', off', hS, ih (i + 1) (ys ++ [y]) led' (by omega) hj'⟩
    | false =>
      rw [if_neg Bool.false_ne_true] at he ⊢
      obtain ⟨h', tk', led', e, F', N', off', hS, hj'⟩ := he
      exact ⟨h', tk', led', e, F', N', off', hS, ih (i + 1) ys led' (by omega) hj'⟩
end
section
variable {prog : Program} {w : World} {A : Around} {E : Value → Shared → Prop} {s : Shared} {h₀ : Heap} {L : Addr} {env : Env} {x : Str} {px : Pos} {body : List Stmt} {Q : Flow → Shared → Prop}
/-- a turn's end in a loop whose target is a cell -/
inductive CEnd (h₀ : Heap) (L : Addr) (stored : List Str) (m₀ : Str → Option Value) (I : Addr) (oI : Obj) (g : Obj → Led) (s₁ s₂ : Shared) : Prop
  | mk : ∀ h' tk m' o' v', (s₂ = { s₁ with heap := h', toks := tk }) → (Fr h₀ L h' m') → (News h₀ L h' ((I, oI) :: g o')) → (o'.data = .cell v') → ((∀ y, stored.contains y = false → m' y = m₀ y)) → CEnd h₀ L stored m₀ I oI g s₁ s₂
def CPost (h₀ : Heap) (L : Addr) (stored : List Str) (m₀ : Str → Option Value) (I : Addr) (oI : Obj) (g : Obj → Led) (s₁ : Shared) (Q : Flow → Shared → Prop) (f : Flow) (s₂ : Shared) : Prop :=
  match f with
  | .ret v => Q (.ret v) s₂
  | .brk => Q .next s₂
  | _ => CEnd h₀ L stored m₀ I oI g s₁ s₂
theorem cell_range {r : Addr} {n : Nat} {lo hi : Int} {t₀ u₀ v₀ : Tok} {m₀ : Str → Option Value} {news : Led} {c : Addr} {o₀ : Obj} {g : Obj → Led} {w₀ : Option Value} (stored : List Str)
    (hk : env.scope.kind = .function) (hx : env.kindOf x = some .cell) (hLe : env.locals = L)
    (hh : A.handled = none) (hr : IsRange s.heap r lo hi 1 t₀ u₀ v₀) (hsmall : Builtin.Range.small lo hi 1 = true) (hn : Builtin.Range.rangeSize lo hi 1 = (n : Int)) (F : Fr h₀ L s.heap m₀) (N : News h₀ L s.heap news)
    (hc : env.cells.lookup x = some c) (U : UpdF c o₀ news g) (hd : o₀.data = .cell w₀)
    (turn : ∀ (i : Nat) t m₁ o h tk I oI, i < n → (∀ y, stored.contains y = false → m₁ y = m₀ y) → o.data = .cell (some (.int (lo + (i : Int)) t)) → Fr h₀ L h m₁ → News h₀ L h ((I, oI) :: g o) → (∀ p ∈ news, p.1 < I) →
      wpAny (model prog w) A (execs body env) (CPost h₀ L stored m₀ I oI g { s with heap := h, toks := tk } Q) E { s with heap := h, toks := tk })
    (done : ∀ m₁ o v₁ h tk, (∀ y, stored.contains y = false → m₁ y = m₀ y) → o.data = .cell v₁ → Fr h₀ L h m₁ → News h₀ L h (g o) → Q .next { s with heap := h, toks := tk }) :
    wpAny (model prog w) A (pyIter (.ref r)) (fun it s₂ => TurnsAt prog w A h₀ env (.Name x px) body Q E it s₂) E s := by
  subst hLe
  refine wpAny_pyIter_range hr hsmall ?_
  obtain ⟨own₀, rest, rfl, hg, hu1, hu2⟩ := U.split
  have W : Walks prog w A s.heap.objs.size [s.heap.objs.size] [s.heap.objs.size] n (fun i v => i < n ∧ ∃ t, v = .int (lo + i * 1) t)
      (fun i h => IsRangeIter h s.heap.objs.size (lo + (i : Nat) * 1) ((n : Int) - (i : Nat)) 1) := (Walks.range hh _ lo 1 n).bound
  have KT := KTurns.ofWalks (target := PySem.Expr.Name x px) W (fun i v s' Q' E' _ hQ => wpAny_of_eq (rfl : letOwnedTupleGo (.Name x px) (.ref s.heap.objs.size) v = pure ()) hQ)
  let J : Nat → (Str → Option Value) → Led → Prop := fun i m₁ news₁ => ∃ o v₁, news₁ = own₀ ++ (c, o) :: rest ∧ o.data = .cell v₁ ∧ (∀ y, stored.contains y = false → m₁ y = m₀ y)
  have hL : env.locals ∉ [s.heap.objs.size] := fun hm => absurd F.ns.lt ((List.mem_singleton.mp hm) ▸ Nat.lt_irrefl _)
  have hoff : ∀ o, ∀ p ∈ own₀ ++ (c, o) :: rest, p.1 ∉ [s.heap.objs.size] := fun o p hp hI => by
    have : p.1 < s.heap.objs.size := by
      rcases List.mem_append.mp hp with h | h
      · exact Heap.lt_size (N p (List.mem_append_left _ h)).1
      · rcases List.mem_cons.mp h with rfl | h
        · exact Heap.lt_size (N (c, o₀) (List.mem_append_right _ (.head _))).1
        · exact Heap.lt_size (N p (List.mem_append_right _ (.tail _ h))).1
    exact absurd this ((List.mem_singleton.mp hI) ▸ Nat.lt_irrefl _)
  refine ⟨s.heap.objs.size, [s.heap.objs.size], [s.heap.objs.size], n, _, _, _, m₀, own₀ ++ (c, o₀) :: rest, J, rfl, KT, hL, ?_, hoff o₀, (by show IsRangeIter _ _ _ _ _; rw [hn]; simpa using Heap.get?_push_size _ rfl), F.push _, (fun p hp => ⟨Heap.get?_push_of_some _ (N p hp).1, (N p hp).2⟩), ⟨o₀, w₀, rfl, hd, fun _ _ => rfl⟩, ?_, ?_⟩
  · intro b hb
    rw [List.mem_singleton.mp hb]
    exact next_is_new F
  · rintro i v m₁ news₁ h₁ tk₁ own hin ⟨_, t, rfl⟩ ⟨o, v₁, rfl, hod, hm⟩ _ h5 h6 h7 hst F₁ N₁
    have ev : (lo : Int) + (i : Int) * 1 = lo + (i : Int) := by omega
    obtain ⟨oI, hoI⟩ : ∃ o, h₁.get? s.heap.objs.size = some o := ⟨_, hst⟩
    have hI0 : h₀.get? s.heap.objs.size = none := next_is_new F
    have own1 : ∀ p ∈ own, p.1 = s.heap.objs.size := fun p hp => List.mem_singleton.mp (h5 p hp)
    have NI : News h₀ env.locals h₁ (((s.heap.objs.size, oI) :: own₀) ++ (c, o) :: rest) := fun p hp => by
      rw [List.cons_append] at hp
      rcases List.mem_cons.mp hp with rfl | hp
      · exact N₁ _ (List.mem_append.mpr (.inl (h7 _ (.head _) hI0 oI hoI)))
      · exact N₁ p (List.mem_append.mpr (.inr hp))
    have hmem := NI (c, o) (List.mem_append_right _ (.head _))
    refine wpAny_assign_Name (wpAny_storeName_cell hk hx hc ⟨o, hmem.1, hod⟩ fun h' hv hs => ?_)
    obtain ⟨o', ho', hd'⟩ := hv
    have F' : Fr h₀ env.locals h' m₁ := ⟨F₁.ns.sameBut hs (Ne.symm hmem.2.1), fun b ob e => (hs.2 b (fun q => by rw [q, hmem.2.2] at e; cases e)).trans (F₁.keep b ob e), F₁.above⟩
    have hcI : ∀ p ∈ (s.heap.objs.size, oI) :: own₀, p.1 ≠ c := fun p hp => by
      rcases List.mem_cons.mp hp with rfl | hp
      · exact Nat.ne_of_gt (Heap.lt_size (N (c, o₀) (List.mem_append_right _ (.head _))).1)
      · exact hu1 p hp
    have N' : News h₀ env.locals h' ((s.heap.objs.size, oI) :: g o') := hg o' ▸ NI.setAt hcI hu2 hs ho'
    rw [ev] at hd'
    have goA : ∀ p ∈ own₀ ++ (c, o₀) :: rest, p.1 < s.heap.objs.size := fun p hp => Heap.lt_size (N p hp).1
    refine wpAny_mono (turn i t m₁ o' h' tk₁ _ oI hin hm hd' F' N' goA) (fun f s₂ p => ?_) fun _ _ e => e
    have fin : CEnd h₀ env.locals stored m₀ s.heap.objs.size oI g { s with heap := h', toks := tk₁ } s₂ → LoopStepU h₀ env.locals [s.heap.objs.size] own (J (i + 1)) { s with heap := h₁, toks := tk₁ } .next s₂ := by
      rintro ⟨h'', tk, m', o'', v'', e, F'', N'', hd'', hm''⟩
      have N3 : News h₀ env.locals h'' ((s.heap.objs.size, oI) :: (own₀ ++ (c, o'') :: rest)) := hg o'' ▸ N''
      refine ⟨rfl, h'', tk, m', own₀ ++ (c, o'') :: rest, e, F'', fun p hp => ?_, hoff o'', o'', v'', rfl, hd'', hm''⟩
      rcases List.mem_append.mp hp with hp | hp
      · have e1 := own1 p hp
        have e2 := h6 p hp
        rw [e1] at e2
        have e3 : p = (s.heap.objs.size, oI) := Prod.ext e1 (Option.some.inj (e2.symm.trans hoI))
        rw [e3]
        exact N3 _ (.head _)
      · exact N3 p (.tail _ hp)
    cases f with
    | ret v => exact .ret p
    | brk => exact .brk p
    | next => exact .next (fin p)
    | cont => exact .cont (fin p)
  · rintro h' tk m' news' F' N' _ ⟨o, v₁, rfl, hod, hm⟩
    exact done m' o v₁ h' tk hm hod F' (hg o ▸ N')
end

/-- the row as a datum -/
def tripD (x : Int × Int) : PyData := .tuple [.int x.1, .int x.2, .int 0]
def rowD (W H P : Int) (xs : List (Int × Int)) : PyData := .tuple [.int W, .int H, .int P, .list (xs.map tripD)]
theorem trips_read {h₀ h : Heap} {L : Addr} {news : Led} (N : News h₀ L h news) : ∀ {vs : List Value} {xs : List (Int × Int)}, Lk (TripAt news) vs xs → ∃ as, ReadsAll h vs (xs.map tripD) as
  | [], [], _ => ⟨[], .nil⟩
  | [], _ :: _, l => nomatch l.1
  | _ :: _, [], l => nomatch l.1
  | v :: vs, x :: xs, l => by
    obtain ⟨as, ra⟩ := trips_read N (vs := vs) (xs := xs) ⟨Nat.succ.inj l.1, fun i v x a b => l.2 (i + 1) v x a b⟩
    obtain ⟨t, k, tA, tB, tC, rfl, hm⟩ := l.2 0 v x rfl rfl
    exact ⟨_, .cons (.tuple (N _ hm).1 rfl rfl (.cons (.int _ _) (.cons (.int _ _) (.cons (.int _ _) .nil)))) ra⟩
theorem row_reads {h₀ h : Heap} {L : Addr} {news : Led} {v : Value} {W H P : Int} {xs : List (Int × Int)} (N : News h₀ L h news) (r : RowAt news v W H P xs) : ∃ as, Reads h v (rowD W H P xs) as := by
  obtain ⟨t, k, l, kl, ys, tW, tH, tP, rfl, h1, h2, h3⟩ := r
  obtain ⟨as, ra⟩ := trips_read N h3
  exact ⟨_, .tuple (N _ h1).1 rfl rfl (.cons (.int _ _) (.cons (.int _ _) (.cons (.int _ _) (.cons (.list (N _ h2).1 rfl rfl (by simpa using ra)) .nil))))⟩
theorem trips_lay : ∀ xs : List (Int × Int), PyData.canLayAll0 (xs.map tripD) = true ∧ PyData.depthAll (xs.map tripD) ≤ 1
  | [] => ⟨rfl, by decide⟩
  | x :: xs => by
    have ih := trips_lay xs
    simp only [List.map_cons, PyData.canLayAll0, PyData.depthAll, ih.1, tripD, PyData.canLay0, PyData.depth]
    have := ih.2
    exact ⟨rfl, by omega⟩
/-- two rows side by side -/
def rows2D (a b : PyData) : PyData := .tuple [a, b]
theorem dep_all {n : Nat} : ∀ {l : List PyData}, (∀ d ∈ l, d.depth ≤ n) → PyData.depthAll l ≤ n
  | [], _ => Nat.zero_le _
  | a :: r, h => by
    rw [PyData.depthAll]
    exact Nat.max_le.mpr ⟨h a (.head _), dep_all fun d hd => h d (.tail _ hd)⟩
theorem row_depth (W H P : Int) (xs : List (Int × Int)) : (rowD W H P xs).depth ≤ 3 := by
  rw [rowD, PyData.depth]
  refine Nat.succ_le_succ (dep_all fun d hd => ?_)
  simp only [List.mem_cons, List.not_mem_nil, or_false] at hd
  rcases hd with rfl | rfl | rfl | rfl
  · exact Nat.zero_le _
  · exact Nat.zero_le _
  · exact Nat.zero_le _
  · exact Nat.succ_le_succ (trips_lay xs).2
theorem row_lay (W H P : Int) (xs : List (Int × Int)) : (rowD W H P xs).canLay0 = true := by
  simp only [rowD, PyData.canLay0, PyData.canLayAll0, (trips_lay xs).1, Bool.and_true]
theorem rows2_shaped (W H P W' H' P' : Int) (xs ys : List (Int × Int)) : SeqAt.shaped (rows2D (rowD W H P xs) (rowD W' H' P' ys)) = true := by
  have h : (rows2D (rowD W H P xs) (rowD W' H' P' ys)).depth ≤ 4 := by
    rw [rows2D, PyData.depth]
    refine Nat.succ_le_succ (dep_all fun d hd => ?_)
    simp only [List.mem_cons, List.not_mem_nil, or_false] at hd
    rcases hd with rfl | rfl
    · exact row_depth _ _ _ _
    · exact row_depth _ _ _ _
  rw [SeqAt.shaped, Bool.and_eq_true, decide_eq_true_eq]
  refine ⟨?_, Nat.le_trans h (by decide)⟩
  simp only [rows2D, PyData.canLay0, PyData.canLayAll0, row_lay, Bool.and_true]
theorem rows_eq {prog : Program} {w : World} {A : Around} {E : Value → Shared → Prop} {s : Shared} {h₀ : Heap} {L a b : Addr} {news : Led} {k k' : Nat} {r1 r2 r3 r4 : Value} {W H P W' H' P' : Int} {xs ys : List (Int × Int)} {Q : Value → Shared → Prop}
    (N : News h₀ L s.heap news) (ha : (a, ({ cls := .type "tuple", data := .seq #[r1, r2] k } : Obj)) ∈ news) (hb : (b, ({ cls := .type "tuple", data := .seq #[r3, r4] k' } : Obj)) ∈ news)
    (h1 : RowAt news r1 W H P xs) (h2 : RowAt news r2 W' H' P' ys) (h3 : RowAt news r3 W H P xs) (h4 : RowAt news r4 W' H' P' ys) (hu : A.units + 64 < cLine) (h : Q (.bool true) s) :
    wpAny (model prog w) A (compareOp .Eq (.ref a) (.ref b)) Q E s := by
  obtain ⟨_, q1⟩ := row_reads N h1
  obtain ⟨_, q2⟩ := row_reads N h2
  obtain ⟨_, q3⟩ := row_reads N h3
  obtain ⟨_, q4⟩ := row_reads N h4
  have hs := rows2_shaped W H P W' H' P' xs ys
  refine eq_dataH (da := rows2D (rowD W H P xs) (rowD W' H' P' ys)) (db := rows2D (rowD W H P xs) (rowD W' H' P' ys)) (.tuple (N _ ha).1 rfl rfl (.cons q1 (.cons q2 .nil))) (.tuple (N _ hb).1 rfl rfl (.cons q3 (.cons q4 .nil))) hs hs hu ?_
  rw [PySem.SeqAt.eqv_refl _ ?_]
  · exact h
  · have := hs
    simp only [SeqAt.shaped, Bool.and_eq_true] at this
    exact this.1
section
variable {w : World} {mean : ExcName → Option Value} {mg mb : Str → Option Value} {f : Addr} {d : Nat} {news : Led} {vs : List Value} {post : Value → Led → Prop} {rais : Prop}
theorem CtR.use {dp un : Nat} {gd : Option (List Code)} {cn : Str} {cs : Scope} {a : Addr} {ccd : Value} {cl : List (Str × Addr)} {outer : List Env} {A₀ : Around} {base h₀ : Heap} {L : Addr} {m : Str → Option Value} {s : Shared} {Q E : Value → Shared → Prop}
    (B : Below A₀ base outer h₀) (F : Fr h₀ L s.heap m) (X : (hd.heap_39 w.params).In h₀) (N : News h₀ L s.heap news) (T : Top hd.view_39 (looseW hd.view_39 []) mean mg mb h₀) (hk : cs.kind = .function)
    (C : CtR w mean mg mb f d news vs post rais) (hd : dp + d < recursionLimit) (hu : un + 8 * d < cLine)
    (ret : ∀ r news' h' tk', Fr h₀ L h' m → News h₀ L h' news' → post r news' → Q r { s with heap := h', toks := tk' })
    (rai : ∀ e g h' tk', Fr h₀ L g m → g.UpToSlots h' → Flies base (envX cn cs L a ccd cl :: outer) e news h' → rais → E (.ref e) { s with heap := h', toks := tk' }) :
    wpAny (model PySem.Challenge.rw_ok0126_01.row.prog w) (ktrTop dp un gd cn cs L a ccd cl outer) (call (.ref f) vs) Q E s := C dp un gd cn cs a ccd cl outer A₀ base h₀ L m s Q E B F X N T hk hd hu ret rai
end

inductive Mid (h₀ : Heap) (L : Addr) (s : Shared) (R : (Str → Option Value) → Led → Prop) (s' : Shared) : Prop
  | mk : ∀ h tk m news, (s' = { s with heap := h, toks := tk }) → (Fr h₀ L h m) → (News h₀ L h news) → (R m news) → Mid h₀ L s R s'
inductive Cells5 (L : Addr) (news : Led) (P : Obj → Obj → Obj → Obj → Obj → Prop) : Prop
  | mk : ∀ o1 o2 o3 o4 o5, (news = [(L + 1 + 1 + 1 + 1 + 1, o5), (L + 1 + 1 + 1 + 1, o4), (L + 1 + 1 + 1, o3), (L + 1 + 1, o2), (L + 1, o1)]) → (P o1 o2 o3 o4 o5) → Cells5 L news P
inductive isCell (o : Obj) : Prop
  | mk : ∀ v, (o.data = .cell v) → isCell o
def flt (sz : Int) (b : Bool) (i : Nat) : List Int := ((List.range i).map (fun (j : Nat) => 1 + (j : Int))).filter fun x => fits sz x b
theorem flt_yes {sz : Int} {b : Bool} {i : Nat} (h : fits sz (1 + (i : Int)) b = true) : flt sz b (i + 1) = flt sz b i ++ [1 + (i : Int)] := by
  unfold flt
  rw [List.range_succ, List.map_append, List.filter_append]
  simp [h]
theorem flt_no {sz : Int} {b : Bool} {i : Nat} (h : fits sz (1 + (i : Int)) b = false) : flt sz b (i + 1) = flt sz b i := by
  unfold flt
  rw [List.range_succ, List.map_append, List.filter_append]
  simp [h]
theorem all_ne_gt' {l : Led} {d e : Addr} (h : ∀ p ∈ l, d < p.1) (hd : @LE.le Nat _ e d) : ∀ p ∈ l, p.1 ≠ e := fun p hp => Nat.ne_of_gt (Nat.lt_of_le_of_lt hd (h p hp))
section
variable {w : World} {mean : ExcName → Option Value} {mg mb : Str → Option Value} {news : Led}
theorem dig_ct {g : Obj → Led} {p : Addr} {x y many : Int} {tx ty : Tok} {n : Nat} (U : UpdF p (listOf #[.int x tx, .int y ty] n) news g) (tm : Tok) (hm : 2 ≤ many) (hm2 : many ≤ 9) (hp : PenOk x y) :
    Ct w mean mg mb 175 1 news [.ref p, .int many tm] (fun r n' => ∃ d t x' tx' y' ty' k, r = .int d t ∧ 0 ≤ d ∧ d < many ∧ PenOk x' y' ∧ n' = g (listOf #[.int x' tx', .int y' ty'] k)) := by
  obtain ⟨own, rest, rfl, hg, h1, h2⟩ := U.split
  intro dp un gd cn cs a ccd cl outer A₀ base h₀ L m s Q E B F X N T hk hd hu ret
  have N' : News h₀ L s.heap ((p, listOf #[.int x tx, .int y ty] n) :: (own ++ rest)) := fun q hq => by
    rcases List.mem_cons.mp hq with rfl | hq
    · exact N _ (List.mem_append_right _ (.head _))
    · rcases List.mem_append.mp hq with hq | hq
      · exact N _ (List.mem_append_left _ hq)
      · exact N _ (List.mem_append_right _ (.tail _ hq))
  refine digit_ct p x y many tx ty tm n hm hm2 hp ?_ dp un gd cn cs a ccd cl outer A₀ base h₀ L m s Q E B F X N' T hk hd hu ?_
  · intro q hq
    rcases List.mem_append.mp hq with hq | hq
    · exact h1 q hq
    · exact h2 q hq
  · rintro r news' h' tk' F' N'' ⟨d, t, x', tx', y', ty', k, rfl, hd0, hd1, hpo, rfl⟩
    refine ret _ (g (listOf #[.int x' tx', .int y' ty'] k)) h' tk' F' ?_ ⟨d, t, x', tx', y', ty', k, rfl, hd0, hd1, hpo, rfl⟩
    rw [hg]
    intro q hq
    rcases List.mem_append.mp hq with hq | hq
    · exact N'' _ (.tail _ (List.mem_append_left _ hq))
    · rcases List.mem_cons.mp hq with rfl | hq
      · exact N'' _ (.head _)
      · exact N'' _ (.tail _ (List.mem_append_right _ hq))
end
abbrev pairO (x tx y ty : Value) (k : Nat) : Obj := { cls := .type "tuple", data := .seq #[x, y] k }
abbrev penO (x y : Int) (tx ty : Tok) (k : Nat) : Obj := listOf #[.int x tx, .int y ty] k
abbrev stepO (s0 s1 : Bool) (k : Nat) : Obj := { cls := .type "tuple", data := .seq #[.bool s0, .bool s1] k }
/-- what stands all along: the pen, the cells, the step, and the rest R -/
inductive Std (L : Addr) (p st : Addr) (s0 s1 : Bool) (o3 : Obj) (R news : Led) : Prop
  | mk : ∀ o1 o2 o4 o5 x y tx ty kp ks, (news = (p, penO x y tx ty kp) :: (L + 1 + 1 + 1 + 1 + 1, o5) :: (L + 1 + 1 + 1 + 1, o4) :: (L + 1 + 1 + 1, o3) :: (L + 1 + 1, o2) :: (L + 1, o1) :: (st, stepO s0 s1 ks) :: R) → (isCell o1) → (isCell o2) → (o4.data = .cell (some (.ref p))) → (o5.data = .cell (some (.ref st))) → (PenOk x y) → Std L p st s0 s1 o3 R news
/-- addresses apart -/
def Offs (L p a : Addr) : Prop := a ≠ p ∧ a ≠ L + 1 + 1 + 1 ∧ a ≠ L + 1 + 1
theorem Offs.gt {L p st a : Addr} (h : @LT.lt Nat _ (L + 1 + 1 + 1 + 1 + 1) p) (h2 : @LT.lt Nat _ p st) (h3 : @LT.lt Nat _ st a) : Offs L p a := by
  have e1 : @Ne Nat a p := by omega
  have e2 : @Ne Nat a (L + 1 + 1 + 1) := by omega
  have e3 : @Ne Nat a (L + 1 + 1) := by omega
  exact ⟨e1, e2, e3⟩
def Aw (L : Addr) (p st : Addr) (R : Led) : Prop := @LT.lt Nat _ (L + 1 + 1 + 1 + 1 + 1) p ∧ @LT.lt Nat _ (L + 1 + 1 + 1 + 1 + 1) st ∧ @LT.lt Nat _ p st ∧ ∀ q ∈ R, Offs L p q.1
theorem fr_name {h₀ h : Heap} {L : Addr} {m : Str → Option Value} {x : Str} {v : Value} (F : Fr h₀ L h m) (hx : m x = some v) : Fr h₀ L h (fun y => if y = x then some v else m y) := by
  have e : (fun y => if y = x then some v else m y) = m := by
    funext y
    by_cases h : y = x
    · rw [if_pos h, h, hx]
    · rw [if_neg h]
  rw [e]
  exact F
theorem std_perm {a b c d e f g : Addr × Obj} {A R : Led} : ∀ q ∈ a :: b :: c :: d :: e :: f :: g :: (A ++ R), q ∈ A ++ (a :: b :: c :: d :: e :: f :: g :: R) := by
  intro q hq
  simp only [List.mem_cons, List.mem_append] at hq ⊢
  rcases hq with h | h | h | h | h | h | h | h | h <;> simp [h]
theorem std_mid {x : Addr × Obj} {A R : Led} : ∀ q ∈ A ++ (x :: R), q ∈ x :: (A ++ R) := by
  intro q hq
  simp only [List.mem_cons, List.mem_append] at hq ⊢
  rcases hq with h | h | h <;> simp [h]
theorem smp_snoc {xs : List (Int × Int)} {a b : Int} (h : Smp xs) (ha : a = 1 ∨ a = 2) (hb : b = 1 ∨ b = 2) : Smp (xs ++ [(a, b)]) := by
  intro x hx
  rcases List.mem_append.mp hx with hx | hx
  · exact h x hx
  · rw [List.mem_singleton.mp hx]
    exact ⟨ha, hb⟩
theorem smp_nil : Smp [] := fun _ h => nomatch h
theorem Aw.cons {L p st : Addr} {R : Led} {x : Addr × Obj} (h : Aw L p st R) (hx : Offs L p x.1) : Aw L p st (x :: R) :=
  ⟨h.1, h.2.1, h.2.2.1, fun q hq => by
    rcases List.mem_cons.mp hq with rfl | hq
    · exact hx
    · exact h.2.2.2 q hq⟩
theorem Aw.app {L p st : Addr} {A R : Led} (h : Aw L p st R) (hA : ∀ q ∈ A, Offs L p q.1) : Aw L p st (A ++ R) :=
  ⟨h.1, h.2.1, h.2.2.1, fun q hq => by
    rcases List.mem_append.mp hq with hq | hq
    · exact hA q hq
    · exact h.2.2.2 q hq⟩
/-- the samplings' list -/
inductive SmpAt (R : Led) (sl : Addr) (xs : List (Int × Int)) : Prop
  | mk : ∀ vs kl, ((sl, listOf vs.toArray kl) ∈ R) → (Lk (PairAt R) vs xs) → SmpAt R sl xs
theorem SmpAt.mono {R R' : Led} {sl : Addr} {xs : List (Int × Int)} (h : SmpAt R sl xs) (s : Sub R R') : SmpAt R' sl xs := by
  obtain ⟨vs, kl, h1, h2⟩ := h
  exact ⟨vs, kl, s _ h1, h2.mono fun v x c => c.mono s⟩
def Few (xs : List (Int × Int)) : Prop := Smp xs ∧ 1 ≤ xs.length ∧ xs.length ≤ 3
def S1 (L sc : Addr) (m : Str → Option Value) (news : Led) : Prop := m "script" = some (.ref sc) ∧ Cells5 L news fun o1 o2 o3 o4 o5 => isCell o1 ∧ isCell o2 ∧ isCell o3 ∧ isCell o4 ∧ isCell o5
inductive S2a (L : Addr) (m : Str → Option Value) (news : Led) : Prop
  | mk : ∀ p o1 o2 o3 o4 o5 x y tx ty k, (news = [(p, penO x y tx ty k), (L + 1 + 1 + 1 + 1 + 1, o5), (L + 1 + 1 + 1 + 1, o4), (L + 1 + 1 + 1, o3), (L + 1 + 1, o2), (L + 1, o1)]) → (isCell o1) → (isCell o2) → (isCell o3) → (o4.data = .cell (some (.ref p))) → (isCell o5) → (PenOk x y) → (@LT.lt Nat _ (L + 1 + 1 + 1 + 1 + 1) p) → S2a L m news
inductive S2 (L : Addr) (m : Str → Option Value) (news : Led) : Prop
  | mk : ∀ p st s0 s1 o3, (Std L p st s0 s1 o3 [] news) → (isCell o3) → (Aw L p st []) → S2 L m news
inductive S3 (L : Addr) (m : Str → Option Value) (news : Led) : Prop
  | mk : ∀ p st s0 s1 o3 R sl xs, (Std L p st s0 s1 o3 R news) → (isCell o3) → (Aw L p st R) → (m "samplings" = some (.ref sl)) → (SmpAt R sl xs) → (Few xs) → S3 L m news
/-- the turns of the samplings' comprehension -/
inductive JP (p a5 a4 a3 a2 a1 D : Addr) (o5 o4 o3 o2 o1 oD : Obj) (R₀ : Led) (i : Nat) (ys : List Value) (led : Led) : Prop
  | mk : ∀ x y tx ty kp Rn xs, (led = (p, penO x y tx ty kp) :: (a5, o5) :: (a4, o4) :: (a3, o3) :: (a2, o2) :: (a1, o1) :: (D, oD) :: Rn) → (PenOk x y) → (xs.length = i) → (Smp xs) → (Lk (PairAt Rn) ys xs) → (Sub R₀ Rn) → (∀ q ∈ Rn, q.1 ≠ p ∧ q.1 ≠ a3 ∧ q.1 ≠ a2) → JP p a5 a4 a3 a2 a1 D o5 o4 o3 o2 o1 oD R₀ i ys led
theorem std_perm1 {x1 a b c d e f g : Addr × Obj} {R : Led} : ∀ q ∈ a :: b :: c :: d :: e :: f :: g :: x1 :: R, q ∈ x1 :: a :: b :: c :: d :: e :: f :: g :: R := std_perm (A := [x1])
theorem std_perm2 {x1 x2 a b c d e f g : Addr × Obj} {R : Led} : ∀ q ∈ a :: b :: c :: d :: e :: f :: g :: x1 :: x2 :: R, q ∈ x1 :: x2 :: a :: b :: c :: d :: e :: f :: g :: R := std_perm (A := [x1, x2])
theorem std_perm3 {x1 x2 x3 a b c d e f g : Addr × Obj} {R : Led} : ∀ q ∈ a :: b :: c :: d :: e :: f :: g :: x1 :: x2 :: x3 :: R, q ∈ x1 :: x2 :: x3 :: a :: b :: c :: d :: e :: f :: g :: R := std_perm (A := [x1, x2, x3])
theorem std_perm4 {x1 x2 x3 x4 a b c d e f g : Addr × Obj} {R : Led} : ∀ q ∈ a :: b :: c :: d :: e :: f :: g :: x1 :: x2 :: x3 :: x4 :: R, q ∈ x1 :: x2 :: x3 :: x4 :: a :: b :: c :: d :: e :: f :: g :: R := std_perm (A := [x1, x2, x3, x4])
theorem std_perm5 {x1 x2 x3 x4 x5 a b c d e f g : Addr × Obj} {R : Led} : ∀ q ∈ a :: b :: c :: d :: e :: f :: g :: x1 :: x2 :: x3 :: x4 :: x5 :: R, q ∈ x1 :: x2 :: x3 :: x4 :: x5 :: a :: b :: c :: d :: e :: f :: g :: R := std_perm (A := [x1, x2, x3, x4, x5])
theorem std_perm6 {x1 x2 x3 x4 x5 x6 a b c d e f g : Addr × Obj} {R : Led} : ∀ q ∈ a :: b :: c :: d :: e :: f :: g :: x1 :: x2 :: x3 :: x4 :: x5 :: x6 :: R, q ∈ x1 :: x2 :: x3 :: x4 :: x5 :: x6 :: a :: b :: c :: d :: e :: f :: g :: R := std_perm (A := [x1, x2, x3, x4, x5, x6])
theorem std_perm7 {x1 x2 x3 x4 x5 x6 x7 a b c d e f g : Addr × Obj} {R : Led} : ∀ q ∈ a :: b :: c :: d :: e :: f :: g :: x1 :: x2 :: x3 :: x4 :: x5 :: x6 :: x7 :: R, q ∈ x1 :: x2 :: x3 :: x4 :: x5 :: x6 :: x7 :: a :: b :: c :: d :: e :: f :: g :: R := std_perm (A := [x1, x2, x3, x4, x5, x6, x7])
theorem std_mid1 {x a1 : Addr × Obj} {R : Led} : ∀ q ∈ a1 :: x :: R, q ∈ x :: a1 :: R := std_mid (A := [a1])
theorem std_mid2 {x a1 a2 : Addr × Obj} {R : Led} : ∀ q ∈ a1 :: a2 :: x :: R, q ∈ x :: a1 :: a2 :: R := std_mid (A := [a1, a2])
theorem std_mid3 {x a1 a2 a3 : Addr × Obj} {R : Led} : ∀ q ∈ a1 :: a2 :: a3 :: x :: R, q ∈ x :: a1 :: a2 :: a3 :: R := std_mid (A := [a1, a2, a3])
theorem std_mid4 {x a1 a2 a3 a4 : Addr × Obj} {R : Led} : ∀ q ∈ a1 :: a2 :: a3 :: a4 :: x :: R, q ∈ x :: a1 :: a2 :: a3 :: a4 :: R := std_mid (A := [a1, a2, a3, a4])
theorem std_mid5 {x a1 a2 a3 a4 a5 : Addr × Obj} {R : Led} : ∀ q ∈ a1 :: a2 :: a3 :: a4 :: a5 :: x :: R, q ∈ x :: a1 :: a2 :: a3 :: a4 :: a5 :: R := std_mid (A := [a1, a2, a3, a4, a5])
theorem std_mid6 {x a1 a2 a3 a4 a5 a6 : Addr × Obj} {R : Led} : ∀ q ∈ a1 :: a2 :: a3 :: a4 :: a5 :: a6 :: x :: R, q ∈ x :: a1 :: a2 :: a3 :: a4 :: a5 :: a6 :: R := std_mid (A := [a1, a2, a3, a4, a5, a6])
theorem std_mid7 {x a1 a2 a3 a4 a5 a6 a7 : Addr × Obj} {R : Led} : ∀ q ∈ a1 :: a2 :: a3 :: a4 :: a5 :: a6 :: a7 :: x :: R, q ∈ x :: a1 :: a2 :: a3 :: a4 :: a5 :: a6 :: a7 :: R := std_mid (A := [a1, a2, a3, a4, a5, a6, a7])
theorem std_mid8 {x a1 a2 a3 a4 a5 a6 a7 a8 : Addr × Obj} {R : Led} : ∀ q ∈ a1 :: a2 :: a3 :: a4 :: a5 :: a6 :: a7 :: a8 :: x :: R, q ∈ x :: a1 :: a2 :: a3 :: a4 :: a5 :: a6 :: a7 :: a8 :: R := std_mid (A := [a1, a2, a3, a4, a5, a6, a7, a8])
theorem std_mid9 {x a1 a2 a3 a4 a5 a6 a7 a8 a9 : Addr × Obj} {R : Led} : ∀ q ∈ a1 :: a2 :: a3 :: a4 :: a5 :: a6 :: a7 :: a8 :: a9 :: x :: R, q ∈ x :: a1 :: a2 :: a3 :: a4 :: a5 :: a6 :: a7 :: a8 :: a9 :: R := std_mid (A := [a1, a2, a3, a4, a5, a6, a7, a8, a9])
theorem std_mid10 {x a1 a2 a3 a4 a5 a6 a7 a8 a9 a10 : Addr × Obj} {R : Led} : ∀ q ∈ a1 :: a2 :: a3 :: a4 :: a5 :: a6 :: a7 :: a8 :: a9 :: a10 :: x :: R, q ∈ x :: a1 :: a2 :: a3 :: a4 :: a5 :: a6 :: a7 :: a8 :: a9 :: a10 :: R := std_mid (A := [a1, a2, a3, a4, a5, a6, a7, a8, a9, a10])
theorem std_mid11 {x a1 a2 a3 a4 a5 a6 a7 a8 a9 a10 a11 : Addr × Obj} {R : Led} : ∀ q ∈ a1 :: a2 :: a3 :: a4 :: a5 :: a6 :: a7 :: a8 :: a9 :: a10 :: a11 :: x :: R, q ∈ x :: a1 :: a2 :: a3 :: a4 :: a5 :: a6 :: a7 :: a8 :: a9 :: a10 :: a11 :: R := std_mid (A := [a1, a2, a3, a4, a5, a6, a7, a8, a9, a10, a11])
theorem std_mid12 {x a1 a2 a3 a4 a5 a6 a7 a8 a9 a10 a11 a12 : Addr × Obj} {R : Led} : ∀ q ∈ a1 :: a2 :: a3 :: a4 :: a5 :: a6 :: a7 :: a8 :: a9 :: a10 :: a11 :: a12 :: x :: R, q ∈ x :: a1 :: a2 :: a3 :: a4 :: a5 :: a6 :: a7 :: a8 :: a9 :: a10 :: a11 :: a12 :: R := std_mid (A := [a1, a2, a3, a4, a5, a6, a7, a8, a9, a10, a11, a12])
theorem std_mid13 {x a1 a2 a3 a4 a5 a6 a7 a8 a9 a10 a11 a12 a13 : Addr × Obj} {R : Led} : ∀ q ∈ a1 :: a2 :: a3 :: a4 :: a5 :: a6 :: a7 :: a8 :: a9 :: a10 :: a11 :: a12 :: a13 :: x :: R, q ∈ x :: a1 :: a2 :: a3 :: a4 :: a5 :: a6 :: a7 :: a8 :: a9 :: a10 :: a11 :: a12 :: a13 :: R := std_mid (A := [a1, a2, a3, a4, a5, a6, a7, a8, a9, a10, a11, a12, a13])
abbrev tup4 (a b c d : Value) (k : Nat) : Obj := { cls := .type "tuple", data := .seq #[a, b, c, d] k }
/-- the earlier shape -/
inductive BfAt (R : Led) (o3 : Obj) (W H P : Int) (xs : List (Int × Int)) : Prop
  | mk : ∀ bf sl tW tH tP k, (o3.data = .cell (some (.ref bf))) → ((bf, tup4 (.int W tW) (.int H tH) (.ref sl) (.int P tP) k) ∈ R) → (SmpAt R sl xs) → BfAt R o3 W H P xs
def Rng (W H : Int) : Prop := 1 ≤ W ∧ W ≤ 9 ∧ 1 ≤ H ∧ H ≤ 9
inductive S4 (L : Addr) (m : Str → Option Value) (news : Led) : Prop
  | mk : ∀ p st s0 s1 o3 R sl xs W H P, (Std L p st s0 s1 o3 R news) → (Aw L p st R) → (m "samplings" = some (.ref sl)) → (SmpAt R sl xs) → (Few xs) → (BfAt R o3 W H P xs) → (Rng W H) → S4 L m news
theorem sub1 {a : Addr × Obj} {R : Led} : Sub R (a :: R) := fun _ h => .tail _ h
theorem sub2 {a b : Addr × Obj} {R : Led} : Sub R (a :: b :: R) := fun _ h => .tail _ (.tail _ h)
theorem sub3 {a b c : Addr × Obj} {R : Led} : Sub R (a :: b :: c :: R) := fun _ h => .tail _ (.tail _ (.tail _ h))
theorem sub4 {a b c d : Addr × Obj} {R : Led} : Sub R (a :: b :: c :: d :: R) := fun _ h => .tail _ (.tail _ (.tail _ (.tail _ h)))
def Wd (W H : Int) : Prop := 0 ≤ W ∧ W < 100 ∧ 0 ≤ H ∧ H < 100
inductive S5 (L : Addr) (m : Str → Option Value) (news : Led) : Prop
  | mk : ∀ p st s0 s1 o3 R sl xs W H P W2 H2 tw th, (Std L p st s0 s1 o3 R news) → (Aw L p st R) → (m "samplings" = some (.ref sl)) → (SmpAt R sl xs) → (Few xs) → (BfAt R o3 W H P xs) → (Rng W H) → (m "width" = some (.int W2 tw)) → (m "height" = some (.int H2 th)) → (Wd W2 H2) → S5 L m news
/-- the turns of the sizes' comprehension -/
inductive JW (p a5 a4 a3 a2 a1 st bf : Addr) (o5 o4 o3 o2 o1 ot ob : Obj) (R : Led) (i : Nat) (ys : List Value) (led : Led) : Prop
  | mk : ∀ x y tx ty kp ws, (led = (p, penO x y tx ty kp) :: (a5, o5) :: (a4, o4) :: (a3, o3) :: (a2, o2) :: (a1, o1) :: (st, ot) :: (bf, ob) :: R) → (PenOk x y) → (ws.length = i) → (Lk (fun v (z : Int) => ∃ t, v = .int z t) ys ws) → (∀ z ∈ ws, 0 ≤ z ∧ z < 100) → JW p a5 a4 a3 a2 a1 st bf o5 o4 o3 o2 o1 ot ob R i ys led
theorem News.dup {h₀ h : Heap} {L : Addr} {a b c d e f g x : Addr × Obj} {R : Led} (N : News h₀ L h (a :: b :: c :: d :: e :: f :: g :: R)) (hx : x ∈ R) : News h₀ L h (a :: b :: c :: d :: e :: f :: g :: x :: R) := fun q hq => by
  simp only [List.mem_cons] at hq
  rcases hq with h | h | h | h | h | h | h | h | h
  · exact N q (by simp [h])
  · exact N q (by simp [h])
  · exact N q (by simp [h])
  · exact N q (by simp [h])
  · exact N q (by simp [h])
  · exact N q (by simp [h])
  · exact N q (by simp [h])
  · exact N q (by simp [h, hx])
  · exact N q (by simp [h])
theorem lk_two {ys : List Value} {ws : List Int} (h : Lk (fun v (z : Int) => ∃ t, v = .int z t) ys ws) (h2 : ws.length = 2) : ∃ a b t u, ys = [.int a t, .int b u] ∧ ws = [a, b] := by
  obtain ⟨hl, hr⟩ := h
  match ws, h2 with
  | [a, b], _ =>
    match ys, hl with
    | [u, v], _ =>
      obtain ⟨t, rfl⟩ := hr 0 u a rfl rfl
      obtain ⟨t', rfl⟩ := hr 1 v b rfl rfl
      exact ⟨a, b, t, t', rfl, rfl⟩
theorem ws_snoc {ws : List Int} {v : Int} (h : ∀ z ∈ ws, 0 ≤ z ∧ z < 100) (h0 : 0 ≤ v) (h1 : v < 100) : ∀ z ∈ ws ++ [v], 0 ≤ z ∧ z < 100 := by
  intro z hz
  rcases List.mem_append.mp hz with hz | hz
  · exact h z hz
  · rw [List.mem_singleton.mp hz]; exact ⟨h0, h1⟩
theorem std_drop {z a b c d e f g x : Addr × Obj} {R : Led} : ∀ q ∈ a :: b :: c :: d :: e :: f :: g :: R, q ∈ z :: a :: b :: c :: d :: e :: f :: g :: x :: R := by
  intro q hq
  simp only [List.mem_cons] at hq ⊢
  rcases hq with h | h | h | h | h | h | h | h <;> simp [h]
/-- the other samplings' list stands alone -/
def Ol (L p st ol : Addr) (R : Led) : Prop := @LT.lt Nat _ (L + 1 + 1 + 1 + 1 + 1) ol ∧ @Ne Nat ol p ∧ @Ne Nat ol st ∧ ∀ q ∈ R, q.1 ≠ ol
inductive S6 (L : Addr) (m : Str → Option Value) (news : Led) : Prop
  | mk : ∀ p st s0 s1 o3 R sl xs W H P W2 H2 tw th ol vs k od tod tpr, (Std L p st s0 s1 o3 ((ol, listOf vs.toArray k) :: R) news) → (Aw L p st R) → (Ol L p st ol R) → (m "samplings" = some (.ref sl)) → (SmpAt R sl xs) → (Few xs) → (BfAt R o3 W H P xs) → (Rng W H) → (m "width" = some (.int W2 tw)) → (m "height" = some (.int H2 th)) → (Wd W2 H2) → (m "precision" = some (.int P tpr)) → (m "others" = some (.ref ol)) → (m "odd" = some (.int od tod)) → (0 ≤ od) → (od < 8) → (Lk (PairAt R) vs xs) → S6 L m news
theorem few_room {its : Array Value} {vs : List Value} {xs : List (Int × Int)} {R : Led} (e : its.toList = vs) (h : Lk (PairAt R) vs xs) (hf : Few xs) : its.toList.length ≤ sizeLine := by
  rw [e, h.1, sizeLine_eq]
  have := hf.2.2
  omega
theorem std_ol {z w a b c d e f g x : Addr × Obj} {R : Led} : ∀ q ∈ a :: b :: c :: d :: e :: f :: g :: w :: R, q ∈ z :: w :: a :: b :: c :: d :: e :: f :: g :: x :: R := by
  intro q hq
  simp only [List.mem_cons] at hq ⊢
  rcases hq with h | h | h | h | h | h | h | h | h <;> simp [h]
def Wd7 (W H : Int) : Prop := 0 ≤ W ∧ W < 1000 ∧ 0 ≤ H ∧ H < 1000
inductive S7 (L : Addr) (m : Str → Option Value) (news : Led) : Prop
  | mk : ∀ p st s0 s1 o3 R sl xs W H P W2 H2 tw th ol ys P2 tpr, (Std L p st s0 s1 o3 R news) → (Aw L p st R) → (m "samplings" = some (.ref sl)) → (SmpAt R sl xs) → (Few xs) → (BfAt R o3 W H P xs) → (Rng W H) → (m "width" = some (.int W2 tw)) → (m "height" = some (.int H2 th)) → (Wd7 W2 H2) → (m "precision" = some (.int P2 tpr)) → (m "others" = some (.ref ol)) → (SmpAt R ol ys) → (Smp ys) → (1 ≤ ys.length) → (ys.length ≤ 4) → S7 L m news
theorem lk_last {R : Led} {vs : List Value} {xs : List (Int × Int)} (h : Lk (PairAt R) vs xs) (hl : 1 ≤ xs.length) : ∃ vi v xi x, vs = vi ++ [v] ∧ xs = xi ++ [x] ∧ Lk (PairAt R) vi xi ∧ PairAt R v x := by
  obtain ⟨e, hr⟩ := h
  rcases List.eq_nil_or_concat vs with rfl | ⟨vi, v, rfl⟩
  · rw [← e] at hl; exact absurd hl (by decide)
  rcases List.eq_nil_or_concat xs with rfl | ⟨xi, x, rfl⟩
  · exact absurd hl (by decide)
  simp only [List.concat_eq_append] at e hr ⊢
  have el : vi.length = xi.length := by simpa using e
  refine ⟨vi, v, xi, x, rfl, rfl, ⟨el, fun i a b ha hb => hr i a b ?_ ?_⟩, hr vi.length v x (by simp) (by rw [el]; simp)⟩
  · have : i < vi.length := by
      rcases Nat.lt_or_ge i vi.length with q | q
      · exact q
      · rw [List.getElem?_eq_none q] at ha; cases ha
    rw [List.getElem?_append_left this]; exact ha
  · have : i < xi.length := by
      rcases Nat.lt_or_ge i xi.length with q | q
      · exact q
      · rw [List.getElem?_eq_none q] at hb; cases hb
    rw [List.getElem?_append_left this]; exact hb
theorem led_last {prog : Program} {w : World} {A : Around} {E : Value → Shared → Prop} {s : Shared} {h₀ : Heap} {L l : Addr} {news : Led} {vi : List Value} {v : Value} {kl : Nat} {value slice : PySem.Expr} {u : Tok} {Q : Value → Shared → Prop}
    (N : News h₀ L s.heap news) (hl : (l, listOf (vi ++ [v]).toArray kl) ∈ news) (h : Q v s)
    (hs : subscripted slice false (.ref l) (.int (-1) u) = operate [.ref l, .int (-1) u] (getItem (.ref l) (.int (-1) u)) := by with_unfolding_all rfl) (hg : ∀ r, letTemporaryGo value (.ref l) r = pure () := by intro _; with_unfolding_all rfl) :
    wpAny (model prog w) A (subscriptTail value slice (.ref l) (.int (-1) u)) Q E s :=
  item_last (vi := vi) (v := v) ⟨_, (N _ hl).1, rfl, _, rfl⟩ h hs hg
theorem seq_last (vi : List Value) (v : Value) : seqIndex? (-1) (vi ++ [v]).toArray.size = some vi.length := by
  unfold seqIndex?
  simp
  omega
theorem set_last : ∀ (vi : List Value) (v w : Value), ki_setL (vi ++ [v]) vi.length w = some (vi ++ [w])
  | [], v, w => rfl
  | a :: vi, v, w => by
    have h := set_last vi v w
    simp only [List.cons_append, List.length_cons, ki_setL, h]
theorem smp_one {xs : List (Int × Int)} (h : Smp xs) : Smp (xs ++ [(1, 1)]) := smp_snoc h (.inl rfl) (.inl rfl)
theorem lk_room {vi : List Value} {v : Value} {xi : List (Int × Int)} {x : Int × Int} {R : Led} (h : Lk (PairAt R) vi xi) (hf : Few (xi ++ [x])) : (vi ++ [v]).toArray.size ≤ sizeLine := by
  have h3 := hf.2.2
  have h1 := h.1
  rw [sizeLine_eq]
  simp at h3 ⊢
  omega
theorem std_ap {t w a b c d e f g : Addr × Obj} {R : Led} : ∀ q ∈ a :: b :: c :: d :: e :: f :: g :: w :: t :: R, q ∈ t :: a :: b :: c :: d :: e :: f :: g :: w :: R := by
  intro q hq
  simp only [List.mem_cons] at hq ⊢
  rcases hq with h | h | h | h | h | h | h | h | h | h <;> simp [h]
theorem ol_offs {L p st ol : Addr} {R : Led} (h : Ol L p st ol R) : Offs L p ol := by
  obtain ⟨h1, h2, h3, _⟩ := h
  have e2 : @Ne Nat ol (L + 1 + 1 + 1) := by omega
  have e3 : @Ne Nat ol (L + 1 + 1) := by omega
  exact ⟨h2, e2, e3⟩
theorem Aw.mk1 {L p st : Addr} {R : Led} {x : Addr × Obj} (a : @LT.lt Nat _ (L + 1 + 1 + 1 + 1 + 1) p) (b : @LT.lt Nat _ (L + 1 + 1 + 1 + 1 + 1) st) (c : @LT.lt Nat _ p st) (h : ∀ q ∈ R, Offs L p q.1) (hx : Offs L p x.1) : Aw L p st (x :: R) := Aw.cons ⟨a, b, c, h⟩ hx
theorem pick_rng {a b : Int} {d : Int} (h0 : 0 ≤ d) (h1 : d < 2) : [a, b].getD d.toNat 0 = a ∨ [a, b].getD d.toNat 0 = b := by
  obtain rfl | rfl : d = 0 ∨ d = 1 := by omega
  · exact .inl rfl
  · exact .inr rfl
theorem smp_flip {xi : List (Int × Int)} {x : Int × Int} (h : Smp (xi ++ [x])) : Smp (xi ++ [(3 - x.1, x.2)]) := by
  have hx := h x (List.mem_append_right _ (.head _))
  exact smp_snoc (fun y hy => h y (List.mem_append_left _ hy)) (by omega) hx.2
inductive NowAt (R : Led) (nw : Addr) (W H P : Int) (ys : List (Int × Int)) : Prop
  | mk : ∀ ol tw th tpr k, ((nw, tup4 (.int W tw) (.int H th) (.ref ol) (.int P tpr) k) ∈ R) → (SmpAt R ol ys) → NowAt R nw W H P ys
def Four (ys : List (Int × Int)) : Prop := Smp ys ∧ 1 ≤ ys.length ∧ ys.length ≤ 4
inductive S9 (L : Addr) (m : Str → Option Value) (news : Led) : Prop
  | mk : ∀ p st s0 s1 o3 R sl xs W H P W2 H2 ol ys P2 tpr nw, (Std L p st s0 s1 o3 R news) → (Aw L p st R) → (m "samplings" = some (.ref sl)) → (SmpAt R sl xs) → (Few xs) → (BfAt R o3 W H P xs) → (Rng W H) → (Wd7 W2 H2) → (m "precision" = some (.int P2 tpr)) → (m "others" = some (.ref ol)) → (SmpAt R ol ys) → (Four ys) → (m "now" = some (.ref nw)) → (NowAt R nw W2 H2 P2 ys) → S9 L m news
inductive S10 (L : Addr) (m : Str → Option Value) (news : Led) : Prop
  | mk : ∀ p st s0 s1 o3 R xs W H P W2 H2 ys P2 nw b, (Std L p st s0 s1 o3 R news) → (Aw L p st R) → (Few xs) → (BfAt R o3 W H P xs) → (Rng W H) → (Wd7 W2 H2) → (Four ys) → (m "now" = some (.ref nw)) → (NowAt R nw W2 H2 P2 ys) → (m "is_let" = some (.bool b)) → ((b = true ↔ ys.length = xs.length ∧ P2 = P)) → S10 L m news
theorem sub8 {q a b c d e f g x : Addr × Obj} {R : Led} (h : q ∈ R) : q ∈ a :: b :: c :: d :: e :: f :: g :: x :: R := .tail _ (.tail _ (.tail _ (.tail _ (.tail _ (.tail _ (.tail _ (.tail _ h)))))))
theorem std_undup {a b c d e f g x : Addr × Obj} {R : Led} : ∀ q ∈ a :: b :: c :: d :: e :: f :: g :: R, q ∈ a :: b :: c :: d :: e :: f :: g :: x :: R := by
  intro q hq
  simp only [List.mem_cons] at hq ⊢
  rcases hq with h | h | h | h | h | h | h | h <;> simp [h]
theorem allObj_mono : ∀ {ws : List (Addr × String)} {k k' : Led → Prop}, (∀ its, k its → k' its) → AllObj ws k → AllObj ws k'
  | [], _, _, h, x => h [] x
  | w :: ws, k, k', h, x => fun o ho => allObj_mono (k := fun its => k ((w.1, o) :: its)) (k' := fun its => k' ((w.1, o) :: its)) (fun its => h _) (x o ho)
theorem unrPost_mono {h₀ : Heap} {L : Addr} {s₁ : Shared} {its : Led} {rest rest' : (Str → Option Value) → Led → Prop} {Q : Flow → Shared → Prop} (hr : ∀ m n, rest m n → rest' m n) : ∀ f s₂, UnrPostW h₀ L s₁ its rest Q f s₂ → UnrPostW h₀ L s₁ its rest' Q f s₂ := by
  intro f s₂ h
  have e : UnrEndW h₀ L s₁ its rest s₂ → UnrEndW h₀ L s₁ its rest' s₂ := fun ⟨h', tk, m', news', e, F, N, ho, r⟩ => ⟨h', tk, m', news', e, F, N, ho, hr _ _ r⟩
  cases f with
  | ret v => exact h
  | brk => exact h
  | next => exact e h
  | cont => exact e h
section
variable {prog : Program} {w : World} {A : Around} {E : Value → Shared → Prop} {s : Shared} {env : Env} {h₀ : Heap} {target : PySem.Expr} {body : List Stmt} {Q : Flow → Shared → Prop} {ws : List (Addr × String)} {keep : Led}
theorem items_inv (J : List Itm → (Str → Option Value) → Led → Prop)
    (step : ∀ a r m news v h tk, J (a :: r) m news → a.Is v h → Fr h₀ env.locals h m → AllObj ws (fun its => News h₀ env.locals h (its ++ news) →
      wpAny (model prog w) A (assign target env v) (fun _ s₂ => wpAny (model prog w) A (execs body env) (UnrPostW h₀ env.locals { s with heap := h, toks := tk } its (fun m' n' => SubL keep n' ∧ J r m' n') Q) E s₂) E { s with heap := h, toks := tk }))
    (fin : ∀ m news h tk, J [] m news → Fr h₀ env.locals h m → News h₀ env.locals h news → Q .next { s with heap := h, toks := tk }) :
    ∀ xs m news, J xs m news → ItemsRest prog w A E h₀ env target body Q s ws keep xs m news := by
  intro xs
  induction xs with
  | nil => exact fun m news hj h tk F N => fin m news h tk hj F N
  | cons a r ih =>
    intro m news hj v h tk ha F
    refine allObj_mono (fun its k N => ?_) (step a r m news v h tk hj ha F)
    exact wpAny_mono (k N) (fun _ s₂ h₂ => wpAny_mono h₂ (fun f s₃ h₃ => unrPost_mono (fun m' n' hk => ⟨hk.1, ih m' n' hk.2⟩) f s₃ h₃) fun _ _ e => e) fun _ _ e => e
end
def zall (s0 s1 : Bool) : List (Int × Int) → List (Int × Int) → Bool
  | x :: A, y :: B => fits x.1 y.1 s0 && fits x.2 y.2 s1 && zall s0 s1 A B
  | _, _ => true
theorem zall_iff {s0 s1 : Bool} : ∀ {A B : List (Int × Int)}, zall s0 s1 A B = true ↔ ∀ (i : Nat) a b, A[i]? = some a → B[i]? = some b → (fits a.1 b.1 s0 && fits a.2 b.2 s1) = true
  | [], B => ⟨fun _ i a b h => by simp at h, fun _ => by cases B <;> rfl⟩
  | _ :: _, [] => ⟨fun _ i a b _ h => by simp at h, fun _ => rfl⟩
  | x :: A, y :: B => by
    have ih := zall_iff (s0 := s0) (s1 := s1) (A := A) (B := B)
    rw [zall, Bool.and_eq_true, ih]
    constructor
    · rintro ⟨h1, h2⟩ i a b ha hb
      cases i with
      | zero =>
        simp only [List.getElem?_cons_zero, Option.some.injEq] at ha hb
        subst ha
        subst hb
        exact h1
      | succ i => exact h2 i a b (by simpa using ha) (by simpa using hb)
    · intro h
      exact ⟨h 0 x y rfl rfl, fun i a b ha hb => h (i + 1) a b (by simpa using ha) (by simpa using hb)⟩
theorem zall_lets {s0 s1 b : Bool} {W H P W' H' P' : Int} {xs ys : List (Int × Int)} (hb : b = true ↔ xs.length = ys.length ∧ P = P') :
    ((b && zall s0 s1 (xs.map fun x => (szw W xs x, szh H xs x)) (ys.map fun x => (szw W' ys x, szh H' ys x))) = true) ↔ Lets s0 s1 W H P xs W' H' P' ys := by
  rw [Bool.and_eq_true, hb, zall_iff]
  constructor
  · rintro ⟨⟨h1, h2⟩, h3⟩
    refine ⟨h1, h2, fun i x y hx hy => ?_⟩
    exact h3 i _ _ (by rw [List.getElem?_map, hx]; rfl) (by rw [List.getElem?_map, hy]; rfl)
  · rintro ⟨h1, h2, h3⟩
    refine ⟨⟨h1, h2⟩, fun i a b ha hb => ?_⟩
    rw [List.getElem?_map] at ha hb
    obtain ⟨x, hx, rfl⟩ := Option.map_eq_some_iff.mp ha
    obtain ⟨y, hy, rfl⟩ := Option.map_eq_some_iff.mp hb
    exact h3 i x y hx hy
inductive S11 (L : Addr) (m : Str → Option Value) (news : Led) : Prop
  | mk : ∀ p st s0 s1 o3 R xs W H P W2 H2 ys P2 nw b, (Std L p st s0 s1 o3 R news) → (Aw L p st R) → (Few xs) → (BfAt R o3 W H P xs) → (Rng W H) → (Wd7 W2 H2) → (Four ys) → (m "now" = some (.ref nw)) → (NowAt R nw W2 H2 P2 ys) → (m "is_let" = some (.bool b)) → ((b = true ↔ Lets s0 s1 W2 H2 P2 ys W H P xs)) → S11 L m news
/-- the zip loop's turns -/
inductive JZ (p a5 a4 a3 a2 a1 st : Addr) (op o5 o4 o3 o1 ot : Obj) (R : Led) (s0 s1 tot : Bool) (nw : Addr) (xs : List Itm) (m : Str → Option Value) (news : Led) : Prop
  | mk : ∀ o2 us ls A B b, (xs = zipItems us ls) → (Lk (PairAt R) us A) → (Lk (PairAt R) ls B) → (news = (p, op) :: (a5, o5) :: (a4, o4) :: (a3, o3) :: (a2, o2) :: (a1, o1) :: (st, ot) :: R) → (isCell o2) → (m "is_let" = some (.bool b)) → ((b && zall s0 s1 A B) = tot) → (m "now" = some (.ref nw)) → JZ p a5 a4 a3 a2 a1 st op o5 o4 o3 o1 ot R s0 s1 tot nw xs m news
theorem sub7 {a b c d e f g : Addr × Obj} {R : Led} : Sub R (a :: b :: c :: d :: e :: f :: g :: R) := fun _ h => .tail _ (.tail _ (.tail _ (.tail _ (.tail _ (.tail _ (.tail _ h))))))
theorem std_app {a b c d e f g : Addr × Obj} {A B R : Led} : ∀ q ∈ a :: b :: c :: d :: e :: f :: g :: (B ++ (A ++ R)), q ∈ B ++ (A ++ (a :: b :: c :: d :: e :: f :: g :: R)) := by
  intro q hq
  simp only [List.mem_cons, List.mem_append] at hq ⊢
  rcases hq with h | h | h | h | h | h | h | h | h | h <;> simp [h]
theorem lk_cons {α β : Type} {R : α → β → Prop} {u : α} {us : List α} {A : List β} (h : Lk R (u :: us) A) : ∃ x A', A = x :: A' ∧ R u x ∧ Lk R us A' := by
  obtain ⟨e, hr⟩ := h
  cases A with
  | nil => cases e
  | cons x A' => exact ⟨x, A', rfl, hr 0 u x rfl rfl, Nat.succ.inj e, fun i v y hv hy => hr (i + 1) v y (by simpa using hv) (by simpa using hy)⟩
theorem its_off {I p a5 a4 a3 a2 a1 st : Addr} {a b c d e op o5 o4 o3 o2 o2' o1 ot : Obj} {R : Led} (h : ∀ q ∈ (p, op) :: (a5, o5) :: (a4, o4) :: (a3, o3) :: (a2, o2) :: (a1, o1) :: (st, ot) :: R, q.1 < I) :
    ∀ q ∈ (p, op) :: (a5, o5) :: (a4, o4) :: (a3, o3) :: (a2, o2') :: (a1, o1) :: (st, ot) :: R, ∀ z ∈ [(I + 4, a), (I + 2, b), (I + 3, c), (I, d), (I + 1, e)], q.1 ≠ z.1 := by
  intro q hq z hz
  have h1 : @LT.lt Nat _ q.1 I := by
    simp only [List.mem_cons] at hq
    rcases hq with rfl | rfl | rfl | rfl | rfl | rfl | rfl | hq
    · exact h _ (.head _)
    · exact h _ (.tail _ (.head _))
    · exact h _ (.tail _ (.tail _ (.head _)))
    · exact h _ (.tail _ (.tail _ (.tail _ (.head _))))
    · exact h (a2, o2) (.tail _ (.tail _ (.tail _ (.tail _ (.head _)))))
    · exact h _ (.tail _ (.tail _ (.tail _ (.tail _ (.tail _ (.head _))))))
    · exact h _ (.tail _ (.tail _ (.tail _ (.tail _ (.tail _ (.tail _ (.head _)))))))
    · exact h _ (sub7 _ hq)
  have h2 : @LE.le Nat _ I z.1 := by
    simp only [List.mem_cons, List.not_mem_nil, or_false] at hz
    rcases hz with rfl | rfl | rfl | rfl | rfl
    · exact Nat.le_add_right _ _
    · exact Nat.le_add_right _ _
    · exact Nat.le_add_right _ _
    · exact Nat.le_refl _
    · exact Nat.le_add_right _ _
  exact Nat.ne_of_lt (Nat.lt_of_lt_of_le h1 h2)
theorem zall_nil {s0 s1 : Bool} {us ls : List Value} {A B : List (Int × Int)} {R : Led} (e : [] = zipItems us ls) (hA : Lk (PairAt R) us A) (hB : Lk (PairAt R) ls B) : zall s0 s1 A B = true := by
  cases us with
  | nil =>
    have : A = [] := List.eq_nil_of_length_eq_zero hA.1.symm
    subst this
    cases B <;> rfl
  | cons u us =>
    cases ls with
    | nil =>
      have : B = [] := List.eq_nil_of_length_eq_zero hB.1.symm
      subst this
      cases A <;> rfl
    | cons l ls => exact nomatch e
inductive FsAt (w : World) (L : Addr) (m : Str → Option Value) (news : Led) (s0 s1 : Bool) (W2 H2 P2 : Int) (ys : List (Int × Int)) (W H P : Int) (xs : List (Int × Int)) : Prop
  | mk : ∀ f a, (m "frame" = some (.ref f)) → (m "ahead" = some (.ref a)) → (FrAt w news f W2 H2 P2 ys) → (FrAt w news a W H P xs) → (Dim W2 H2 ys) → (Dim W H xs) → ∀ st o5 ks, ((L + 1 + 1 + 1 + 1 + 1, o5) ∈ news) → (o5.data = .cell (some (.ref st))) → ((st, stepO s0 s1 ks) ∈ news) → ∀ b, (m "is_let" = some (.bool b)) → ((b = true ↔ Lets s0 s1 W2 H2 P2 ys W H P xs)) → FsAt w L m news s0 s1 W2 H2 P2 ys W H P xs
inductive S12 (w : World) (L : Addr) (m : Str → Option Value) (news : Led) : Prop
  | mk : ∀ s0 s1 W2 H2 P2 ys W H P xs, (FsAt w L m news s0 s1 W2 H2 P2 ys W H P xs) → S12 w L m news
theorem hmem3 {a b c d e f g : Addr × Obj} {R : Led} : d ∈ a :: b :: c :: d :: e :: f :: g :: R ∧ b ∈ a :: b :: c :: d :: e :: f :: g :: R ∧ g ∈ a :: b :: c :: d :: e :: f :: g :: R := by
  simp
/-- the rows of before -/
inductive RwAt (m : Str → Option Value) (news : Led) (W2 H2 P2 : Int) (ys : List (Int × Int)) (W H P : Int) (xs : List (Int × Int)) : Prop
  | mk : ∀ rt k r1 r2, (m "rows" = some (.ref rt)) → ((rt, ({ cls := .type "tuple", data := .seq #[r1, r2] k } : Obj)) ∈ news) → (RowAt news r1 W2 H2 P2 ys) → (RowAt news r2 W H P xs) → RwAt m news W2 H2 P2 ys W H P xs
inductive S13 (w : World) (L : Addr) (m : Str → Option Value) (news : Led) : Prop
  | mk : ∀ s0 s1 W2 H2 P2 ys W H P xs, (FsAt w L m news s0 s1 W2 H2 P2 ys W H P xs) → (RwAt m news W2 H2 P2 ys W H P xs) → S13 w L m news
inductive S14 (w : World) (L : Addr) (m : Str → Option Value) (news : Led) : Prop
  | mk : ∀ s0 s1 W2 H2 P2 ys W H P xs, (FsAt w L m news s0 s1 W2 H2 P2 ys W H P xs) → (RwAt m news W2 H2 P2 ys W H P xs) → ∀ b, (m "is_let" = some (.bool b)) → (m "told" = some (.bool b)) → S14 w L m news
/-- a cell's row apart from p -/
inductive Ap5 (L p : Nat) : Prop
  | mk : L + 1 ≠ p → L + 1 + 1 ≠ p → L + 1 + 1 + 1 ≠ p → L + 1 + 1 + 1 + 1 ≠ p → L + 1 + 1 + 1 + 1 + 1 ≠ p → p ≠ L + 1 → p ≠ L + 1 + 1 → p ≠ L + 1 + 1 + 1 → p ≠ L + 1 + 1 + 1 + 1 → p ≠ L + 1 + 1 + 1 + 1 + 1 → Ap5 L p
inductive Ap6 (L p st : Nat) : Prop
  | mk : L + 1 ≠ p → L + 1 + 1 ≠ p → L + 1 + 1 + 1 ≠ p → L + 1 + 1 + 1 + 1 ≠ p → L + 1 + 1 + 1 + 1 + 1 ≠ p → st ≠ p → p ≠ L + 1 → p ≠ L + 1 + 1 → p ≠ L + 1 + 1 + 1 → p ≠ L + 1 + 1 + 1 + 1 → p ≠ L + 1 + 1 + 1 + 1 + 1 → p ≠ st → Ap6 L p st
inductive ApC (L : Nat) : Prop
  | mk : L + 1 ≠ L + 1 + 1 → L + 1 ≠ L + 1 + 1 + 1 → L + 1 ≠ L + 1 + 1 + 1 + 1 → L + 1 ≠ L + 1 + 1 + 1 + 1 + 1 → L + 1 + 1 ≠ L + 1 → L + 1 + 1 ≠ L + 1 + 1 + 1 → L + 1 + 1 ≠ L + 1 + 1 + 1 + 1 → L + 1 + 1 ≠ L + 1 + 1 + 1 + 1 + 1 → L + 1 + 1 + 1 ≠ L + 1 → L + 1 + 1 + 1 ≠ L + 1 + 1 → L + 1 + 1 + 1 ≠ L + 1 + 1 + 1 + 1 → L + 1 + 1 + 1 ≠ L + 1 + 1 + 1 + 1 + 1 → L + 1 + 1 + 1 + 1 ≠ L + 1 → L + 1 + 1 + 1 + 1 ≠ L + 1 + 1 → L + 1 + 1 + 1 + 1 ≠ L + 1 + 1 + 1 → L + 1 + 1 + 1 + 1 ≠ L + 1 + 1 + 1 + 1 + 1 → L + 1 + 1 + 1 + 1 + 1 ≠ L + 1 → L + 1 + 1 + 1 + 1 + 1 ≠ L + 1 + 1 → L + 1 + 1 + 1 + 1 + 1 ≠ L + 1 + 1 + 1 → L + 1 + 1 + 1 + 1 + 1 ≠ L + 1 + 1 + 1 + 1 → ApC L
theorem gtNe {a b : Nat} (h : a < b) : a ≠ b := Nat.ne_of_lt h
theorem apart5 {L p : Nat} (h : L + 1 + 1 + 1 + 1 + 1 < p) : Ap5 L p := by
  have h4 := Nat.lt_of_succ_lt h
  have h3 := Nat.lt_of_succ_lt h4
  have h2 := Nat.lt_of_succ_lt h3
  have h1 := Nat.lt_of_succ_lt h2
  exact ⟨gtNe h1, gtNe h2, gtNe h3, gtNe h4, gtNe h, Ne.symm (gtNe h1), Ne.symm (gtNe h2), Ne.symm (gtNe h3), Ne.symm (gtNe h4), Ne.symm (gtNe h)⟩
theorem apart6 {L p st : Nat} (h : L + 1 + 1 + 1 + 1 + 1 < p) (hs : p < st) : Ap6 L p st := by
  obtain ⟨a, b, c, d, e, f, g, i, j, k⟩ := apart5 h
  exact ⟨a, b, c, d, e, Ne.symm (gtNe hs), f, g, i, j, k, gtNe hs⟩
theorem apartC (L : Nat) : ApC L := by
  constructor <;> omega
theorem execs_midQ {M : Model} {A : Around} {env : Env} {E : Value → Shared → Prop} {s : Shared} {st : Stmt} {rest : List Stmt} {Q : Flow → Shared → Prop} (D : Shared → Prop)
    (h1 : ∀ QQ : Flow → Shared → Prop, (∀ s', D s' → QQ .next s') → wpAny M A (exec st env) QQ E s)
    (h2 : ∀ s', D s' → wpAny M A (execs rest env) Q E s') : wpAny M A (execs (st :: rest) env) Q E s :=
  execs_mid D (h1 _ fun _ h => h) h2
theorem dim_of_rng {W H : Int} {xs : List (Int × Int)} (h : Rng W H) (f : Few xs) : Dim W H xs := by
  obtain ⟨r1, r2, r3, r4⟩ := h
  exact ⟨by omega, by omega, by omega, by omega, f.1, Nat.lt_of_le_of_lt f.2.2 (by decide)⟩
theorem gt5 {a I : Nat} (h : a < I) : I ≠ a ∧ I + 1 ≠ a ∧ I + 2 ≠ a ∧ I + 3 ≠ a ∧ I + 4 ≠ a := by omega

theorem law_holds : PySem.Challenge.rw_ok0126_01.Holds := by
  k_with_none
  refine hd ?_
  w_strict (
    k_go0
    all_goals try k_fold
    rename_i w₁ s₀ s₁ mg mb G Y fa o pm doc ho hg KX X V GL T B TE TW ga go M cda cdb hcd ns hs hlay0 hL1 hr1 hl2 as1 as2 sc vs as3 hL ra w1 r0 hI hr hc1 hc2 K0 hD h₁ tk₁ F o5 o4 o3 o2 o1 d5 d4 d3 d2 d1 N0 X0
    dsimp only
    obtain ⟨ca0, ca1, ca2, ca3, ca4, ca5, ca6, ca7, ca8, ca9, ca10, ca11, ca12, ca13, ca14, ca15, ca16, ca17, ca18, ca19⟩ := apartC s₁.heap.objs.size
    refine execs_midQ (Mid s₁.heap s₁.heap.objs.size s₁ (S1 s₁.heap.objs.size sc)) ?_ ?_
    · intro QQ hQQ
      k_with "eval ListComp" => (first | (k_here; lct_look; k_dflt (refine LCt.ListComp_T (F₀ := by k_asm) (by with_unfolding_all rfl) (by decide) (by rfl) (by decide) (by rfl) ?_)) | (k_here; (fail_if_success lct_look); k_dflt (refine LCg.ListComp_U (F₀ := by k_asm) (by with_unfolding_all rfl) (by decide) (by rfl) (by decide) (by rfl) ?_)))
      k_with "exec Assign cons ListComp" => (first | (k_here; lct_look; k_dflt (refine LCt.Assign_ListComp_T (F₀ := by k_asm) (by rfl) (by with_unfolding_all rfl) (by with_unfolding_all rfl) (by decide) (by rfl) (by decide) (by rfl) (by rfl) (by rfl) ?_)) | (k_here; (fail_if_success lct_look); k_dflt (refine LCg.Assign_ListComp_U (F₀ := by k_asm) (by rfl) (by with_unfolding_all rfl) (by with_unfolding_all rfl) (by decide) (by rfl) (by decide) (by rfl) (by rfl) (by rfl) ?_)))
      k_with "exec For Name Call cons nil" => (k_here; (rename Fr _ _ _ _ => lF'); (with_unfolding_all refine' For_turns lF' ?_; k_whole))
      k_with "pyIter ref" => (k_here; k_dflt (refine cell_range (n := 14) ["told"] (by exact rfl) (by exact rfl) (by exact rfl) (by exact rfl) (by assumption) (by decide) (by decide) (by k_asm) (by k_asm) (by rfl) (by k_updF) (by assumption) ?_ ?_); (all_goals try dsimp only); all_goals refine Blk.out ?_)
      k_with "CompSrcT" => (refine Blk.out ?_)
      k_steps
      · skip
        refine Blk.mk ?_
        intro i t m₁ o h tk I oI hi hm hod F N hlt
        k_lt hlt
        replace F : Fr s₁.heap s₁.heap.objs.size h m₁ := F
        replace N : News s₁.heap s₁.heap.objs.size h _ := N
        k_steps
        refine Blk.mk ?_
        refine LCt.CompSrcT.range (n := 14) rfl (by k_asm) (by k_asm) (by assumption) (by decide) (by decide) (by rw [sizeLine_eq]; omega) (fun g9 => compRestT_inv (n := 14) (fun i' ys led => led = _ ∧ IntsAre ys (flt (1 + (i : Int)) false i')) ?_ ?_ _ 0 [] _ (Nat.zero_add _) ⟨rfl, .nil⟩)
        · intro i' ys led v I oI C oC D m₂ h8 tk8 E' hi' hj hP hC hx F8 N8 off8 ne8
          obtain ⟨rfl, hints⟩ := hj
          obtain ⟨t8, rfl⟩ := hP
          k_with "call ref" => ((k_here; k_dflt (refine Ct.use (by k_asm) (by k_asm) (by k_asm) (by k_asm) (by k_asm) (by first | exact rfl | assumption) (grows_ct _ _ _ _ _) (by ktr_room) (by ktr_units) ?_)); intro r9 n9 h9 tk9 F9 N9 hp9; obtain ⟨rfl, rfl⟩ := hp9)
          k_steps
          · exact LCg.CompEnd.intro (by k_asm) (by k_asm) _ (fun p hp => hp) off8 trivial ⟨rfl, by rw [flt_yes (by assumption)]; exact hints.append (.cons _ _ .nil)⟩
          · exact LCg.CompEnd.intro (by k_asm) (by k_asm) _ (fun p hp => hp) off8 trivial ⟨rfl, by rw [flt_no (by assumption)]; exact hints⟩
        intro ys led hj
        obtain ⟨rfl, hints⟩ := hj
        unfold LCg.FinA
        intro D h8 tk8 F8 N8 o8
        simp only [LCg.Off1, and_true] at o8
        have hD8 : h8.IsList D ys.toArray := ⟨_, (N8 _ (.head _)).1, rfl, _, rfl⟩
        k_steps
        refine Blk.mk ?_
        refine LCt.CompSrcT.range (n := 14) rfl (by k_asm) (by k_asm) (by assumption) (by decide) (by decide) (by rw [sizeLine_eq]; omega) (fun g9 => compRestT_inv (n := 14) (fun i' zs led => led = _ ∧ IntsAre zs (flt (1 + (i : Int)) false i')) ?_ ?_ _ 0 [] _ (Nat.zero_add _) ⟨rfl, .nil⟩)
        · intro i' zs led v I oI C oC D m₂ h8 tk8 E' hi' hj hP hC hx F8 N8 off8 ne8
          obtain ⟨rfl, hints⟩ := hj
          obtain ⟨t8, rfl⟩ := hP
          k_with "call ref" => ((k_here; k_dflt (refine Ct.use (by k_asm) (by k_asm) (by k_asm) (by k_asm) (by k_asm) (by first | exact rfl | assumption) (fits_ct _ _ _ _ _) (by ktr_room) (by ktr_units) ?_)); intro r9 n9 h9 tk9 F9 N9 hp9; obtain ⟨rfl, rfl⟩ := hp9)
          k_steps
          · exact LCg.CompEnd.intro (by k_asm) (by k_asm) _ (fun p hp => hp) off8 trivial ⟨rfl, by rw [flt_yes (by assumption)]; exact hints.append (.cons _ _ .nil)⟩
          · exact LCg.CompEnd.intro (by k_asm) (by k_asm) _ (fun p hp => hp) off8 trivial ⟨rfl, by rw [flt_no (by assumption)]; exact hints⟩
        intro zs led hj
        obtain ⟨rfl, hints2⟩ := hj
        unfold LCg.FinE
        intro D2 h9 tk9 F9 N9 o9
        simp only [LCg.Off1, and_true] at o9
        have hD8 : h9.IsList D ys.toArray := ⟨_, (N9 _ (.tail _ (.head _))).1, rfl, _, rfl⟩
        have hD9 : h9.IsList D2 zs.toArray := ⟨_, (N9 _ (.head _)).1, rfl, _, rfl⟩
        k_steps
        refine ⟨h9, tk9, _, o, _, rfl, F9, fun p hp => N9 p (.tail _ (.tail _ hp)), hod, fun y hy => ?_⟩
        have hy' : y ≠ "told" := by simpa using hy
        show (if y = "told" then _ else m₁ y) = _
        rw [if_neg hy']
        exact hm y hy
      refine Blk.mk ?_
      intro m₁ o v₁ h tk hm hod F N
      replace F : Fr s₁.heap s₁.heap.objs.size h m₁ := F
      replace N : News s₁.heap s₁.heap.objs.size h _ := N
      k_steps
      · skip
        refine Blk.mk ?_
        intro i t m₁ o h tk I oI hi hm hod F N hlt
        k_lt hlt
        replace F : Fr s₁.heap s₁.heap.objs.size h m₁ := F
        replace N : News s₁.heap s₁.heap.objs.size h _ := N
        k_steps
        refine Blk.mk ?_
        refine LCt.CompSrcT.range (n := 14) rfl (by k_asm) (by k_asm) (by assumption) (by decide) (by decide) (by rw [sizeLine_eq]; omega) (fun g9 => compRestT_inv (n := 14) (fun i' ys led => led = _ ∧ IntsAre ys (flt (1 + (i : Int)) true i')) ?_ ?_ _ 0 [] _ (Nat.zero_add _) ⟨rfl, .nil⟩)
        · intro i' ys led v I oI C oC D m₂ h8 tk8 E' hi' hj hP hC hx F8 N8 off8 ne8
          obtain ⟨rfl, hints⟩ := hj
          obtain ⟨t8, rfl⟩ := hP
          k_with "call ref" => ((k_here; k_dflt (refine Ct.use (by k_asm) (by k_asm) (by k_asm) (by k_asm) (by k_asm) (by first | exact rfl | assumption) (grows_ct _ _ _ _ _) (by ktr_room) (by ktr_units) ?_)); intro r9 n9 h9 tk9 F9 N9 hp9; obtain ⟨rfl, rfl⟩ := hp9)
          k_steps
          · exact LCg.CompEnd.intro (by k_asm) (by k_asm) _ (fun p hp => hp) off8 trivial ⟨rfl, by rw [flt_yes (by assumption)]; exact hints.append (.cons _ _ .nil)⟩
          · exact LCg.CompEnd.intro (by k_asm) (by k_asm) _ (fun p hp => hp) off8 trivial ⟨rfl, by rw [flt_no (by assumption)]; exact hints⟩
        intro ys led hj
        obtain ⟨rfl, hints⟩ := hj
        unfold LCg.FinA
        intro D h8 tk8 F8 N8 o8
        simp only [LCg.Off1, and_true] at o8
        have hD8 : h8.IsList D ys.toArray := ⟨_, (N8 _ (.head _)).1, rfl, _, rfl⟩
        k_steps
        refine Blk.mk ?_
        refine LCt.CompSrcT.range (n := 14) rfl (by k_asm) (by k_asm) (by assumption) (by decide) (by decide) (by rw [sizeLine_eq]; omega) (fun g9 => compRestT_inv (n := 14) (fun i' zs led => led = _ ∧ IntsAre zs (flt (1 + (i : Int)) true i')) ?_ ?_ _ 0 [] _ (Nat.zero_add _) ⟨rfl, .nil⟩)
        · intro i' zs led v I oI C oC D m₂ h8 tk8 E' hi' hj hP hC hx F8 N8 off8 ne8
          obtain ⟨rfl, hints⟩ := hj
          obtain ⟨t8, rfl⟩ := hP
          k_with "call ref" => ((k_here; k_dflt (refine Ct.use (by k_asm) (by k_asm) (by k_asm) (by k_asm) (by k_asm) (by first | exact rfl | assumption) (fits_ct _ _ _ _ _) (by ktr_room) (by ktr_units) ?_)); intro r9 n9 h9 tk9 F9 N9 hp9; obtain ⟨rfl, rfl⟩ := hp9)
          k_steps
          · exact LCg.CompEnd.intro (by k_asm) (by k_asm) _ (fun p hp => hp) off8 trivial ⟨rfl, by rw [flt_yes (by assumption)]; exact hints.append (.cons _ _ .nil)⟩
          · exact LCg.CompEnd.intro (by k_asm) (by k_asm) _ (fun p hp => hp) off8 trivial ⟨rfl, by rw [flt_no (by assumption)]; exact hints⟩
        intro zs led hj
        obtain ⟨rfl, hints2⟩ := hj
        unfold LCg.FinE
        intro D2 h9 tk9 F9 N9 o9
        simp only [LCg.Off1, and_true] at o9
        have hD8 : h9.IsList D ys.toArray := ⟨_, (N9 _ (.tail _ (.head _))).1, rfl, _, rfl⟩
        have hD9 : h9.IsList D2 zs.toArray := ⟨_, (N9 _ (.head _)).1, rfl, _, rfl⟩
        k_steps
        refine ⟨h9, tk9, _, o, _, rfl, F9, fun p hp => N9 p (.tail _ (.tail _ hp)), hod, fun y hy => ?_⟩
        have hy' : y ≠ "told" := by simpa using hy
        show (if y = "told" then _ else m₁ y) = _
        rw [if_neg hy']
        exact hm y hy
      refine Blk.mk ?_
      intro m₂ o v₂ h tk hm2 hod2 F N
      replace F : Fr s₁.heap s₁.heap.objs.size h m₂ := F
      replace N : News s₁.heap s₁.heap.objs.size h _ := N
      k_steps
      rename_i hz tkz Fz Nz
      exact hQQ _ ⟨_, _, _, _, rfl, Fz, fun p hp => Nz p (.tail _ hp), (hm2 _ rfl).trans ((hm _ rfl).trans rfl), _, _, _, _, _, rfl, ⟨_, by assumption⟩, ⟨_, hod2⟩, ⟨_, d3⟩, ⟨_, d4⟩, ⟨_, d5⟩⟩
    · rintro s' ⟨h, tk, m, news, rfl, F, N, hsc, o1, o2, o3, o4, o5, rfl, ⟨v1, c1⟩, ⟨v2, c2⟩, ⟨v3, c3⟩, ⟨v4, c4⟩, ⟨v5, c5⟩⟩
      replace F := fr_name F hsc
      clear d1 d2 d3 d4 d5 N0 X0
      try dsimp only
      refine execs_midQ (Mid s₁.heap s₁.heap.objs.size s₁ (S2a s₁.heap.objs.size)) ?_ ?_
      · intro QQ hQQ
        k_with_none
        k_with "call ref" => (k_here; k_dflt (refine lpen_ct sc vs ns hI (by omega) _ _ _ _ _ _ _ _ _ _ _ _ _ _ _ _ _ (by k_asm) (by k_asm) (by k_asm) (by k_asm) (by k_asm) (by first | exact rfl | assumption) (by first | exact Nat.le_of_ble_eq_true rfl | ktr_room) (by first | exact Nat.le_of_ble_eq_true rfl | ktr_units) hL ?_); intro p9 x9 y9 tx9 ty9 k9 h9 tk9 F9 N9 hpo l9; k_lt l9)
        k_steps
        exact hQQ _ ⟨_, _, _, _, rfl, by k_asm, by k_asm, _, _, _, _, _, _, _, _, _, _, _, rfl, ⟨_, c1⟩, ⟨_, c2⟩, ⟨_, c3⟩, by assumption, ⟨_, c5⟩, hpo, l9.1⟩
      · rintro s' ⟨h, tk, m, news, rfl, F, N, p, o1, o2, o3, o4, o5, x, y, tx, ty, k, rfl, ⟨v1, c1⟩, ⟨v2, c2⟩, ⟨v3, c3⟩, c4, ⟨v5, c5⟩, hpo, lp⟩
        obtain ⟨np1, np2, np3, np4, np5, pn1, pn2, pn3, pn4, pn5⟩ := apart5 lp
        try dsimp only
        refine execs_midQ (Mid s₁.heap s₁.heap.objs.size s₁ (S2 s₁.heap.objs.size)) ?_ ?_
        · intro QQ hQQ
          k_with_none
          k_with "call ref" => (k_here; k_dflt (refine Ct.use (by k_asm) (by k_asm) (by k_asm) (by k_asm) (by k_asm) (by first | exact rfl | assumption) (dig_ct (by k_updF) _ (by decide) (by decide) (by assumption)) (by first | exact Nat.le_of_ble_eq_true rfl | ktr_room) (by first | exact Nat.le_of_ble_eq_true rfl | ktr_units) ?_); (intro r9 n9 h9 tk9 F9 N9 hp9; obtain ⟨d9, t9, x9, y9, tx9, ty9, k9, rfl, hd0, hd1, hpo, rfl⟩ := hp9; try dsimp only at N9))
          k_steps
          rename_i D9 h9a l9a h9b os9 F9a N9a ds9
          exact hQQ _ ⟨_, _, _, _, rfl, by k_asm, fun q hq => N9a q (std_mid6 (R := []) q hq), p, D9, _, _, o3, ⟨_, _, _, _, _, _, _, _, _, _, rfl, ⟨_, c1⟩, ⟨_, c2⟩, c4, ds9, by assumption⟩, ⟨_, c3⟩, lp, by omega, l9a.1, fun q hq => nomatch hq⟩
        · rintro s' ⟨h, tk, m, news, rfl, F, N, p, st, b0, b1, o3, ⟨o1, o2, o4, o5, x, y, tx, ty, kp, ks, rfl, ⟨v1, c1⟩, ⟨v2, c2⟩, c4, c5, hpo⟩, ⟨v3, c3⟩, lp, lst, lps, lR⟩
          obtain ⟨np1, np2, np3, np4, np5, nps, pn1, pn2, pn3, pn4, pn5, pns⟩ := apart6 lp lps
          try dsimp only
          refine execs_midQ (Mid s₁.heap s₁.heap.objs.size s₁ (S3 s₁.heap.objs.size)) ?_ ?_
          · --{3
            intro QQ hQQ
            k_with_none
            k_with "eval ListComp" => (first | (k_here; lct_look; k_dflt (refine LCt.ListComp_T (F₀ := by k_asm) (by with_unfolding_all rfl) (by decide) (by rfl) (by decide) (by rfl) ?_)) | (k_here; (fail_if_success lct_look); k_dflt (refine LCg.ListComp_U (F₀ := by k_asm) (by with_unfolding_all rfl) (by decide) (by rfl) (by decide) (by rfl) ?_)))
            k_with "exec Assign cons ListComp" => (first | (k_here; lct_look; k_dflt (refine LCt.Assign_ListComp_T (F₀ := by k_asm) (by rfl) (by with_unfolding_all rfl) (by with_unfolding_all rfl) (by decide) (by rfl) (by decide) (by rfl) (by rfl) (by rfl) ?_)) | (k_here; (fail_if_success lct_look); k_dflt (refine LCg.Assign_ListComp_U (F₀ := by k_asm) (by rfl) (by with_unfolding_all rfl) (by with_unfolding_all rfl) (by decide) (by rfl) (by decide) (by rfl) (by rfl) (by rfl) ?_)))
            k_with "CompSrc" => (refine Blk.out ?_)
            k_with "call ref" => (k_here; k_dflt (refine Ct.use (by k_asm) (by k_asm) (by k_asm) (by k_asm) (by k_asm) (by first | exact rfl | assumption) (dig_ct (by k_updF) _ (by decide) (by decide) (by assumption)) (by first | exact Nat.le_of_ble_eq_true rfl | ktr_room) (by first | exact Nat.le_of_ble_eq_true rfl | ktr_units) ?_); (intro r9 n9 h9 tk9 F9 N9 hp9; obtain ⟨d9, t9, x9, y9, tx9, ty9, k9, rfl, hd0, hd1, hpo, rfl⟩ := hp9; try dsimp only at N9))
            k_steps
            refine Blk.mk ?_
            rename IsRange _ _ _ _ _ _ _ _ => hr9
            obtain ⟨n, hn⟩ : ∃ n : Nat, 1 + d9 = (n : Int) := ⟨(1 + d9).toNat, by omega⟩
            rw [hn] at hr9
            refine LCg.CompSrc.range (n := n) rfl (by k_asm) (by k_asm) (by assumption) (range_ok n (by omega)).1 (range_ok n (by omega)).2 (by rw [sizeLine_eq]; omega) (fun g9 => compRest_inv (n := n) (JP p _ _ _ _ _ st _ _ _ _ _ _ []) ?_ ?_ _ 0 [] _ (Nat.zero_add _) rfl ⟨_, _, _, _, _, [], [], rfl, by assumption, rfl, smp_nil, .nil, fun p hp => hp, fun q hq => nomatch hq⟩)
            · intro i ys led v I oI C oC D m₂ h8 tk8 E' hi hl hj hP hC hx F8 N8 off8 ne8
              obtain ⟨x, y, tx, ty, kp, Rn, xs, rfl, hpo, hlen, hsm, hlk, _, hD9⟩ := hj
              have o8 := off8
              simp only [LCg.Off3] at o8
              have nI := Ne.symm o8.1.1
              have nC := Ne.symm o8.1.2.1
              have nD := Ne.symm o8.1.2.2
              have hRp : ∀ q ∈ Rn, q.1 ≠ p := fun q hq => (hD9 q hq).1
              k_steps
              rename_i Dn hn Fn Nn ln
              obtain ⟨e1, e2, e3, e4, e5, e6, e7, e8, e9, e10, e11⟩ := ln
              obtain ⟨q1, q2, q3, q4, q5, q6, q7, q8⟩ := off8
              refine LCg.CompEnd.intro Fn Nn _ std_mid10 ⟨q1, q2, q3, q4, q5, q6, q7, ⟨Nat.ne_of_gt e1, Nat.ne_of_gt e2, Nat.ne_of_gt e3⟩, q8⟩ trivial ⟨_, _, _, _, _, (Dn, _) :: Rn, xs ++ [(_, _)], rfl, hpo, by rw [List.length_append, hlen]; rfl, smp_snoc hsm ?_ ?_, (hlk.mono fun v x c => c.mono fun p hp => .tail _ hp).snoc ⟨Dn, _, _, _, rfl, .head _⟩, (fun p hp => nomatch hp), ?_⟩
              · omega
              · omega
              · intro q hq
                rcases List.mem_cons.mp hq with rfl | hq
                · exact Offs.gt lp lps e10
                · exact hD9 q hq
            · intro ys led hl hj
              obtain ⟨x, y, tx, ty, kp, Rn, xs, rfl, hpo, hlen, hsm, hlk, _, hD9⟩ := hj
              unfold LCg.FinA
              intro D h8 tk8 F8 N8 o8
              obtain ⟨o81, o82, o83, o84, o85, o86, o87, o8⟩ := o8
              refine hQQ _ ⟨_, _, _, _, rfl, F8, fun q hq => N8 q (std_mid7 q hq), p, st, b0, b1, o3, (D, _) :: Rn, D, xs, ⟨_, _, _, _, _, _, _, _, _, _, rfl, ⟨_, c1⟩, ⟨_, c2⟩, c4, c5, hpo⟩, ⟨_, c3⟩, ⟨lp, lst, lps, ?_⟩, rfl, ⟨ys, _, .head _, hlk.mono fun v x c => c.mono fun p hp => .tail _ hp⟩, hsm, by omega, by omega⟩
              intro q hq
              rcases List.mem_cons.mp hq with rfl | hq
              · exact ⟨Ne.symm o81, Ne.symm o84, Ne.symm o85⟩
              · exact hD9 q hq
            --}3
          · rintro s' ⟨h, tk, m, news, rfl, F, N, p, st, b0, b1, o3, R, sl, xs, ⟨o1, o2, o4, o5, x, y, tx, ty, kp, ks, rfl, ⟨v1, c1⟩, ⟨v2, c2⟩, c4, c5, hpo⟩, ⟨v3, c3⟩, ⟨lp, lst, lps, lR⟩, hsl, ⟨vs, kl, hls, hlk⟩, hsm, hl1, hl3⟩
            obtain ⟨np1, np2, np3, np4, np5, nps, pn1, pn2, pn3, pn4, pn5, pns⟩ := apart6 lp lps
            replace F := fr_name F hsl
            have hRp : ∀ q ∈ R, q.1 ≠ p := fun q hq => (lR q hq).1
            try dsimp only
            refine execs_midQ (Mid s₁.heap s₁.heap.objs.size s₁ (S3 s₁.heap.objs.size)) ?_ ?_
            · --{4
              intro QQ hQQ
              k_with_none
              k_with "eval ListComp" => (first | (k_here; lct_look; k_dflt (refine LCt.ListComp_T (F₀ := by k_asm) (by with_unfolding_all rfl) (by decide) (by rfl) (by decide) (by rfl) ?_)) | (k_here; (fail_if_success lct_look); k_dflt (refine LCg.ListComp_U (F₀ := by k_asm) (by with_unfolding_all rfl) (by decide) (by rfl) (by decide) (by rfl) ?_)))
              k_with "exec Assign cons ListComp" => (first | (k_here; lct_look; k_dflt (refine LCt.Assign_ListComp_T (F₀ := by k_asm) (by rfl) (by with_unfolding_all rfl) (by with_unfolding_all rfl) (by decide) (by rfl) (by decide) (by rfl) (by rfl) (by rfl) ?_)) | (k_here; (fail_if_success lct_look); k_dflt (refine LCg.Assign_ListComp_U (F₀ := by k_asm) (by rfl) (by with_unfolding_all rfl) (by with_unfolding_all rfl) (by decide) (by rfl) (by decide) (by rfl) (by rfl) (by rfl) ?_)))
              k_with "CompSrc" => (refine Blk.out ?_)
              k_with "call ref" => (k_here; k_dflt (refine Ct.use (by k_asm) (by k_asm) (by k_asm) (by k_asm) (by k_asm) (by first | exact rfl | assumption) (dig_ct (by k_updF) _ (by decide) (by decide) (by assumption)) (by first | exact Nat.le_of_ble_eq_true rfl | ktr_room) (by first | exact Nat.le_of_ble_eq_true rfl | ktr_units) ?_); (intro r9 n9 h9 tk9 F9 N9 hp9; obtain ⟨d9, t9, x9, y9, tx9, ty9, k9, rfl, hd0, hd1, hpo, rfl⟩ := hp9; try dsimp only at N9))
              k_steps
              · refine Blk.mk ?_
                refine LCg.CompSrc.ledger (its := vs.toArray) rfl (by k_asm) (by k_asm) (by k_mem) ?_ (fun g9 => compRest_inv (n := vs.toArray.size) (JP p _ _ _ _ _ st _ _ _ _ _ _ R) ?_ ?_ _ 0 [] _ (Nat.zero_add _) rfl ⟨_, _, _, _, _, R, [], rfl, by assumption, rfl, smp_nil, .nil, fun p hp => hp, lR⟩)
                · rw [List.size_toArray, hlk.1, sizeLine_eq]; omega
                · intro i ys led v I oI C oC D m₂ h8 tk8 E' hi hl hj hP hC hx F8 N8 off8 ne8
                  obtain ⟨x, y, tx, ty, kp, Rn, zs, rfl, hpo, hlen, hsm, hlk, hsub, hD9⟩ := hj
                  have hls9 := hsub _ hls
                  k_steps
                  rename_i Dn hn Fn Nn ln
                  obtain ⟨e1, e2, e3, e4, e5, e6, e7, e8, e9, e10, e11⟩ := ln
                  obtain ⟨q1, q2, q3, q4, q5, q6, q7, q8⟩ := off8
                  refine LCg.CompEnd.intro Fn Nn _ std_mid10 ⟨q1, q2, q3, q4, q5, q6, q7, ⟨Nat.ne_of_gt e1, Nat.ne_of_gt e2, Nat.ne_of_gt e3⟩, q8⟩ (Or.inr ⟨_, by k_mem, rfl, _, rfl⟩) ⟨_, _, _, _, _, (Dn, _) :: Rn, zs ++ [(_, _)], rfl, hpo, by rw [List.length_append, hlen]; rfl, smp_snoc hsm (.inl rfl) (.inl rfl), (hlk.mono fun v x c => c.mono fun p hp => .tail _ hp).snoc ⟨Dn, _, _, _, rfl, .head _⟩, (fun p hp => .tail _ (hsub p hp)), ?_⟩
                  intro q hq
                  rcases List.mem_cons.mp hq with rfl | hq
                  · exact Offs.gt lp lps e10
                  · exact hD9 q hq
                · intro ys led hl hj
                  obtain ⟨x, y, tx, ty, kp, Rn, zs, rfl, hpo, hlen, hsm, hlk', hsub, hD9⟩ := hj
                  unfold LCg.FinA
                  intro D h8 tk8 F8 N8 o8
                  obtain ⟨o81, o82, o83, o84, o85, o86, o87, o8⟩ := o8
                  have hlv : vs.toArray.size = xs.length := by rw [List.size_toArray, hlk.1]
                  k_steps
                  refine hQQ _ ⟨_, _, _, _, rfl, F8, fun q hq => N8 q (std_mid7 q hq), p, st, b0, b1, o3, (D, _) :: Rn, D, zs, ⟨_, _, _, _, _, _, _, _, _, _, rfl, ⟨_, c1⟩, ⟨_, c2⟩, c4, c5, hpo⟩, ⟨_, c3⟩, ⟨lp, lst, lps, ?_⟩, rfl, ⟨ys, _, .head _, hlk'.mono fun v x c => c.mono fun p hp => .tail _ hp⟩, hsm, by omega, by omega⟩
                  intro q hq
                  rcases List.mem_cons.mp hq with rfl | hq
                  · exact ⟨Ne.symm o81, Ne.symm o84, Ne.symm o85⟩
                  · exact hD9 q hq
              · exact hQQ _ ⟨_, _, _, _, rfl, by k_asm, by k_asm, p, st, b0, b1, o3, R, sl, xs, ⟨_, _, _, _, _, _, _, _, _, _, rfl, ⟨_, c1⟩, ⟨_, c2⟩, c4, c5, hpo⟩, ⟨_, c3⟩, ⟨lp, lst, lps, lR⟩, rfl, ⟨vs, _, hls, hlk⟩, hsm, hl1, hl3⟩
              --}4
            · rintro s' ⟨h, tk, m, news, rfl, F, N, p, st, b0, b1, o3, R, sl, xs, ⟨o1, o2, o4, o5, x, y, tx, ty, kp, ks, rfl, ⟨v1, c1⟩, ⟨v2, c2⟩, c4, c5, hpo⟩, ⟨v3, c3⟩, ⟨lp, lst, lps, lR⟩, hsl, ⟨vs, kl, hls, hlk⟩, hsm, hl1, hl3⟩
              obtain ⟨np1, np2, np3, np4, np5, nps, pn1, pn2, pn3, pn4, pn5, pns⟩ := apart6 lp lps
              replace F := fr_name F hsl
              have hRp : ∀ q ∈ R, q.1 ≠ p := fun q hq => (lR q hq).1
              have hR3 : ∀ q ∈ R, q.1 ≠ s₁.heap.objs.size + 1 + 1 + 1 := fun q hq => (lR q hq).2.1
              try dsimp only
              refine execs_midQ (Mid s₁.heap s₁.heap.objs.size s₁ (S4 s₁.heap.objs.size)) ?_ ?_
              · --{5
                intro QQ hQQ
                k_with_none
                k_with "call ref" => (k_here; k_dflt (refine Ct.use (by k_asm) (by k_asm) (by k_asm) (by k_asm) (by k_asm) (by first | exact rfl | assumption) (dig_ct (by k_updF) _ (by decide) (by decide) (by assumption)) (by first | exact Nat.le_of_ble_eq_true rfl | ktr_room) (by first | exact Nat.le_of_ble_eq_true rfl | ktr_units) ?_); (intro r9 n9 h9 tk9 F9 N9 hp9; obtain ⟨d9, t9, x9, y9, tx9, ty9, k9, rfl, hd0, hd1, hpo, rfl⟩ := hp9; try dsimp only at N9))
                k_steps
                rename_i la hla lla t9a D9 h9a l9b h9b os9 F9a N9a ds9
                have hSA : SmpAt R sl xs := ⟨vs, kl, hls, hlk⟩
                refine hQQ _ ⟨_, _, _, _, rfl, F9a, fun q hq => N9a q (std_perm2 q hq), p, st, b0, b1, os9, (D9, _) :: (la, _) :: R, sl, xs, _, _, _, ⟨_, _, _, _, _, _, _, _, _, _, rfl, ⟨_, c1⟩, ⟨_, c2⟩, c4, c5, hpo⟩, ⟨lp, lst, lps, ?_⟩, rfl, hSA.mono sub2, ⟨hsm, hl1, hl3⟩, ⟨D9, sl, _, _, _, _, ds9, .head _, hSA.mono sub2⟩, ?_, ?_, ?_, ?_⟩
                · intro q hq
                  rcases List.mem_cons.mp hq with rfl | hq
                  · exact Offs.gt lp lps l9b.2.2.2.2.2.2.2.1
                  · rcases List.mem_cons.mp hq with rfl | hq
                    · exact Offs.gt lp lps lla.2.2.2.2.2.2.1
                    · exact lR q hq
                all_goals omega
                --}5
              · rintro s' ⟨h, tk, m, news, rfl, F, N, p, st, b0, b1, o3, R, sl, xs, W, H, P, ⟨o1, o2, o4, o5, x, y, tx, ty, kp, ks, rfl, ⟨v1, c1⟩, ⟨v2, c2⟩, c4, c5, hpo⟩, ⟨lp, lst, lps, lR⟩, hsl, hSA, hfew, ⟨bf, slb, tW, tH, tP, kb, c3, hbf, hSB⟩, hrg⟩
                obtain ⟨np1, np2, np3, np4, np5, nps, pn1, pn2, pn3, pn4, pn5, pns⟩ := apart6 lp lps
                replace F := fr_name F hsl
                replace N := News.dup N hbf
                have hRp : ∀ q ∈ R, q.1 ≠ p := fun q hq => (lR q hq).1
                have hbp : bf ≠ p := (lR _ hbf).1
                try dsimp only
                refine execs_midQ (Mid s₁.heap s₁.heap.objs.size s₁ (S5 s₁.heap.objs.size)) ?_ ?_
                · --{6
                  intro QQ hQQ
                  k_with_none
                  k_with "eval ListComp" => (first | (k_here; lct_look; k_dflt (refine LCt.ListComp_T (F₀ := by k_asm) (by with_unfolding_all rfl) (by decide) (by rfl) (by decide) (by rfl) ?_)) | (k_here; (fail_if_success lct_look); k_dflt (refine LCg.ListComp_U (F₀ := by k_asm) (by with_unfolding_all rfl) (by decide) (by rfl) (by decide) (by rfl) ?_)))
                  k_with "exec Assign cons ListComp" => (first | (k_here; lct_look; k_dflt (refine LCt.Assign_ListComp_T (F₀ := by k_asm) (by rfl) (by with_unfolding_all rfl) (by with_unfolding_all rfl) (by decide) (by rfl) (by decide) (by rfl) (by rfl) (by rfl) ?_)) | (k_here; (fail_if_success lct_look); k_dflt (refine LCg.Assign_ListComp_U (F₀ := by k_asm) (by rfl) (by with_unfolding_all rfl) (by with_unfolding_all rfl) (by decide) (by rfl) (by decide) (by rfl) (by rfl) (by rfl) ?_)))
                  k_with "CompSrc" => (refine Blk.out ?_)
                  k_with "call ref" => (k_here; k_dflt (refine Ct.use (by k_asm) (by k_asm) (by k_asm) (by k_asm) (by k_asm) (by first | exact rfl | assumption) (dig_ct (by k_updF) _ (by decide) (by decide) (by assumption)) (by first | exact Nat.le_of_ble_eq_true rfl | ktr_room) (by first | exact Nat.le_of_ble_eq_true rfl | ktr_units) ?_); (intro r9 n9 h9 tk9 F9 N9 hp9; obtain ⟨d9, t9, x9, y9, tx9, ty9, k9, rfl, hd0, hd1, hpo, rfl⟩ := hp9; try dsimp only at N9))
                  k_steps
                  refine Blk.mk ?_
                  refine LCg.CompSrc.range (n := 2) rfl (by k_asm) (by k_asm) (by assumption) (by decide) (by decide) (by rw [sizeLine_eq]; omega) (fun g9 => compRest_inv (n := 2) (JW p _ _ _ _ _ st bf _ _ _ _ _ _ _ R) ?_ ?_ _ 0 [] _ (Nat.zero_add _) rfl ⟨_, _, _, _, _, [], rfl, by assumption, rfl, .nil, fun q hq => nomatch hq⟩)
                  · intro i ys led v I oI C oC D m₂ h8 tk8 E' hi hl hj hP hC hx F8 N8 off8 ne8
                    obtain ⟨x, y, tx, ty, kp, ws, rfl, hpo, hlen, hlk, hws⟩ := hj
                    have o8 := off8
                    simp only [LCg.Off3] at o8
                    have nI := Ne.symm o8.1.1
                    have nC := Ne.symm o8.1.2.1
                    have nD := Ne.symm o8.1.2.2
                    obtain ⟨t8, rfl⟩ := hP
                    obtain ⟨r1, r2, r3, r4⟩ := hrg
                    obtain rfl | rfl : i = 0 ∨ i = 1 := by omega
                    · replace hx : m₂ "at" = some (.int 0 t8) := hx
                      k_steps
                      all_goals rename News _ _ _ _ => kN; rename Fr _ _ _ _ => kF; rename PenOk _ _ => kP; exact LCg.CompEnd.intro kF kN _ (fun p hp => hp) off8 trivial ⟨_, _, _, _, _, ws ++ [_], rfl, kP, by rw [List.length_append, hlen]; rfl, hlk.snoc ⟨_, rfl⟩, ws_snoc hws (by omega) (by omega)⟩
                    · replace hx : m₂ "at" = some (.int 1 t8) := hx
                      k_steps
                      all_goals rename News _ _ _ _ => kN; rename Fr _ _ _ _ => kF; rename PenOk _ _ => kP; exact LCg.CompEnd.intro kF kN _ (fun p hp => hp) off8 trivial ⟨_, _, _, _, _, ws ++ [_], rfl, kP, by rw [List.length_append, hlen]; rfl, hlk.snoc ⟨_, rfl⟩, ws_snoc hws (by omega) (by omega)⟩
                  · intro ys led hl hj
                    obtain ⟨x, y, tx, ty, kp, ws, rfl, hpo, hlen, hlk, hws⟩ := hj
                    obtain ⟨W2, H2, t1, t2, rfl, rfl⟩ := lk_two hlk hlen
                    have hw1 := hws W2 (.head _)
                    have hw2 := hws H2 (.tail _ (.head _))
                    unfold LCg.FinE
                    intro D h8 tk8 F8 N8 o8
                    simp only [LCg.Off1] at o8
                    k_steps
                    rename News _ _ _ _ => kN
                    rename Fr _ _ _ _ => kF
                    exact hQQ _ ⟨_, _, _, _, rfl, kF, fun q hq => kN q (std_drop q hq), p, st, b0, b1, o3, R, sl, xs, W, H, P, W2, H2, _, _, ⟨_, _, _, _, _, _, _, _, _, _, rfl, ⟨_, c1⟩, ⟨_, c2⟩, c4, c5, hpo⟩, ⟨lp, lst, lps, lR⟩, rfl, hSA, hfew, ⟨bf, slb, tW, tH, tP, kb, c3, hbf, hSB⟩, hrg, rfl, rfl, hw1.1, hw1.2, hw2.1, hw2.2⟩
                  --}6
                · rintro s' ⟨h, tk, m, news, rfl, F, N, p, st, b0, b1, o3, R, sl, xs, W, H, P, W2, H2, tw, th, ⟨o1, o2, o4, o5, x, y, tx, ty, kp, ks, rfl, ⟨v1, c1⟩, ⟨v2, c2⟩, c4, c5, hpo⟩, ⟨lp, lst, lps, lR⟩, hsl, ⟨vs, kl, hls, hlk⟩, hfew, ⟨bf, slb, tW, tH, tP, kb, c3, hbf, hSB⟩, hrg, hmw, hmh, hwd⟩
                  obtain ⟨np1, np2, np3, np4, np5, nps, pn1, pn2, pn3, pn4, pn5, pns⟩ := apart6 lp lps
                  replace F := fr_name F hsl
                  replace N := News.dup N hbf
                  have hRp : ∀ q ∈ R, q.1 ≠ p := fun q hq => (lR q hq).1
                  have hbp : bf ≠ p := (lR _ hbf).1
                  try dsimp only
                  refine execs_midQ (Mid s₁.heap s₁.heap.objs.size s₁ (S6 s₁.heap.objs.size)) ?_ ?_
                  · --{7
                    intro QQ hQQ
                    k_with_none
                    k_with "call ref" => (k_here; k_dflt (refine Ct.use (by k_asm) (by k_asm) (by k_asm) (by k_asm) (by k_asm) (by first | exact rfl | assumption) (dig_ct (by k_updF) _ (by decide) (by decide) (by assumption)) (by first | exact Nat.le_of_ble_eq_true rfl | ktr_room) (by first | exact Nat.le_of_ble_eq_true rfl | ktr_units) ?_); (intro r9 n9 h9 tk9 F9 N9 hp9; obtain ⟨d9, t9, x9, y9, tx9, ty9, k9, rfl, hd0, hd1, hpo, rfl⟩ := hp9; try dsimp only at N9))
                    k_with "call type:list" => (k_here; k_dflt (refine kup_listOf (zs := vs) (its2 := vs.toArray) (by k_asm) (by k_asm) (by k_mem) (by exact List.toList_toArray) ?_ (few_room List.toList_toArray hlk hfew)); intro D' c' h' F' N' l1; k_lt l1)
                    k_steps
                    rename News _ _ _ _ => kN
                    rename Fr _ _ _ _ => kF
                    obtain ⟨e1, e2, e3, e4, e5, e6, e7, e8, e9⟩ := l1
                    have hRD : ∀ q ∈ R, q.1 ≠ D' := all_ne_lt (allLt_all e9)
                    exact hQQ _ ⟨_, _, _, _, rfl, kF, fun q hq => kN q (std_ol q hq), p, st, b0, b1, o3, R, sl, xs, W, H, P, W2, H2, tw, th, D', vs, _, _, _, _, ⟨_, _, _, _, _, _, _, _, _, _, rfl, ⟨_, c1⟩, ⟨_, c2⟩, c4, c5, hpo⟩, ⟨lp, lst, lps, lR⟩, ⟨e2, Nat.ne_of_gt e1, Nat.ne_of_gt e7, hRD⟩, rfl, ⟨vs, kl, hls, hlk⟩, hfew, ⟨bf, slb, tW, tH, tP, kb, c3, hbf, hSB⟩, hrg, hmw, hmh, hwd, rfl, rfl, rfl, hd0, hd1, hlk⟩
                    --}7
                  · rintro s' ⟨h, tk, m, news, rfl, F, N, p, st, b0, b1, o3, R, sl, xs, W, H, P, W2, H2, tw, th, ol, vs, kol, od, tod, tpr, ⟨o1, o2, o4, o5, x, y, tx, ty, kp, ks, rfl, ⟨v1, c1⟩, ⟨v2, c2⟩, c4, c5, hpo⟩, ⟨lp, lst, lps, lR⟩, ⟨ll, lop, los, loR⟩, hsl, hSA, hfew, ⟨bf, slb, tW, tH, tP, kb, c3, hbf, hSB⟩, hrg, hmw, hmh, hwd, hmp, hmo, hmd, hd0, hd8, hlk⟩
                    obtain ⟨np1, np2, np3, np4, np5, nps, pn1, pn2, pn3, pn4, pn5, pns⟩ := apart6 lp lps
                    obtain ⟨no1, no2, no3, no4, no5, on1, on2, on3, on4, on5⟩ := apart5 ll
                    have nop := Ne.symm lop
                    have nos := Ne.symm los
                    obtain ⟨vi, v, xi, x9, rfl, rfl, hlki, hpv⟩ := lk_last hlk hfew.2.1
                    replace F := fr_name F hsl
                    replace F := fr_name (x := "width") (v := .int W2 tw) F hmw
                    replace F := fr_name (x := "height") (v := .int H2 th) F hmh
                    replace F := fr_name (x := "precision") (v := .int P tpr) F hmp
                    replace F := fr_name (x := "others") (v := .ref ol) F hmo
                    replace F := fr_name (x := "odd") (v := .int od tod) F hmd
                    have hRp : ∀ q ∈ R, q.1 ≠ p := fun q hq => (lR q hq).1
                    obtain ⟨wd1, wd2, wd3, wd4⟩ := hwd
                    obtain ⟨tt, ktt, tA, tB, rfl, hpm⟩ := hpv
                    try dsimp only
                    refine execs_midQ (Mid s₁.heap s₁.heap.objs.size s₁ (S7 s₁.heap.objs.size)) ?_ ?_
                    · --{8
                      intro QQ hQQ
                      k_with_none
                      k_with "call ref" => (k_here; k_dflt (refine Ct.use (by k_asm) (by k_asm) (by k_asm) (by k_asm) (by k_asm) (by first | exact rfl | assumption) (dig_ct (by k_updF) _ (by decide) (by decide) (by assumption)) (by first | exact Nat.le_of_ble_eq_true rfl | ktr_room) (by first | exact Nat.le_of_ble_eq_true rfl | ktr_units) ?_); (intro r9 n9 h9 tk9 F9 N9 hp9; obtain ⟨d9, t9, x9, y9, tx9, ty9, k9, rfl, hd0, hd1, hpo, rfl⟩ := hp9; try dsimp only at N9))
                      k_with "subscriptTail Name UnaryOp ref int" => (k_here; k_dflt (refine led_last (vi := vi) (v := .ref tt) (by k_asm) (by k_mem) ?_))
                      k_with "call builtin:list.append" => (k_here; k_dflt (refine append_K (its := (vi ++ [PySem.Value.ref tt]).toArray) (by k_asm) (by k_asm) (by k_upd) ?_ (lk_room hlki hfew)); intro h' F' N'; rw [List.push_toArray] at N')
                      k_with "setItem ref int" => (k_here; k_dflt (refine ki_setNeg (its := (vi ++ [PySem.Value.ref tt]).toArray) (j := vi.length) (q := vi ++ [_]) (by k_asm) (by k_asm) (by decide) (by decide) (seq_last _ _) (set_last _ _ _) (by k_upd) ?_); intro h' F' N')
                      k_steps
                      · skip
                        rename News _ _ _ _ => kN
                        rename Fr _ _ _ _ => kF
                        have hpk := pick_rng (a := 1) (b := -2) hd0 hd1
                        refine hQQ _ ⟨_, _, _, _, rfl, kF, fun q hq => kN q (.tail _ hq), p, st, b0, b1, o3, ((ol, _) :: R), sl, _, W, H, P, _, _, _, _, ol, _, _, _, ⟨_, _, _, _, _, _, _, _, _, _, rfl, ⟨_, c1⟩, ⟨_, c2⟩, c4, c5, hpo⟩, Aw.mk1 lp lst lps lR (ol_offs ⟨ll, lop, los, loR⟩), rfl, hSA.mono sub1, hfew, ⟨bf, slb, tW, tH, tP, kb, c3, sub1 _ hbf, hSB.mono sub1⟩, hrg, rfl, rfl, ⟨?_, ?_, wd3, by omega⟩, rfl, rfl, ⟨_, _, .head _, hlk.mono fun v x c => c.mono sub1⟩, hfew.1, hfew.2.1, Nat.le_trans hfew.2.2 (by decide)⟩
                        all_goals (rcases hpk with e | e <;> rw [e] <;> split <;> omega)
                      · skip
                        rename News _ _ _ _ => kN
                        rename Fr _ _ _ _ => kF
                        have hpk := pick_rng (a := 2) (b := -1) hd0 hd1
                        refine hQQ _ ⟨_, _, _, _, rfl, kF, fun q hq => kN q (.tail _ hq), p, st, b0, b1, o3, ((ol, _) :: R), sl, _, W, H, P, _, _, _, _, ol, _, _, _, ⟨_, _, _, _, _, _, _, _, _, _, rfl, ⟨_, c1⟩, ⟨_, c2⟩, c4, c5, hpo⟩, Aw.mk1 lp lst lps lR (ol_offs ⟨ll, lop, los, loR⟩), rfl, hSA.mono sub1, hfew, ⟨bf, slb, tW, tH, tP, kb, c3, sub1 _ hbf, hSB.mono sub1⟩, hrg, rfl, rfl, ⟨wd1, by omega, ?_, ?_⟩, rfl, rfl, ⟨_, _, .head _, hlk.mono fun v x c => c.mono sub1⟩, hfew.1, hfew.2.1, Nat.le_trans hfew.2.2 (by decide)⟩
                        all_goals (rcases hpk with e | e <;> rw [e] <;> split <;> omega)
                      · skip
                        rename_i D9 h9a F9a N9a l9a
                        have hTo : Offs s₁.heap.objs.size p D9 := Offs.gt lp lps l9a.2.2.2.2.2.2.1
                        rename News _ _ _ _ => kN
                        rename Fr _ _ _ _ => kF
                        exact hQQ _ ⟨_, _, _, _, rfl, kF, fun q hq => kN q (std_ap q hq), p, st, b0, b1, o3, ((ol, _) :: (D9, _) :: R), sl, _, W, H, P, _, _, _, _, ol, ((xi ++ [x9]) ++ [(1, 1)]), _, _, ⟨_, _, _, _, _, _, _, _, _, _, rfl, ⟨_, c1⟩, ⟨_, c2⟩, c4, c5, hpo⟩, Aw.cons (Aw.mk1 lp lst lps lR (x := (D9, _)) hTo) (ol_offs ⟨ll, lop, los, loR⟩), rfl, hSA.mono sub2, hfew, ⟨bf, slb, tW, tH, tP, kb, c3, sub2 _ hbf, hSB.mono sub2⟩, hrg, rfl, rfl, ⟨wd1, by omega, wd3, by omega⟩, rfl, rfl, ⟨_, _, .head _, (hlk.mono fun v x c => c.mono sub2).snoc ⟨D9, _, _, _, rfl, .tail _ (.head _)⟩⟩, smp_one hfew.1, by rw [List.length_append]; exact Nat.le_trans hfew.2.1 (Nat.le_add_right _ _), by rw [List.length_append]; exact Nat.add_le_add_right hfew.2.2 1⟩
                      · skip
                        rename News _ _ _ _ => kN
                        rename Fr _ _ _ _ => kF
                        exact hQQ _ ⟨_, _, _, _, rfl, kF, fun q hq => kN q (hq), p, st, b0, b1, o3, ((ol, _) :: R), sl, _, W, H, P, _, _, _, _, ol, _, _, _, ⟨_, _, _, _, _, _, _, _, _, _, rfl, ⟨_, c1⟩, ⟨_, c2⟩, c4, c5, hpo⟩, Aw.mk1 lp lst lps lR (ol_offs ⟨ll, lop, los, loR⟩), rfl, hSA.mono sub1, hfew, ⟨bf, slb, tW, tH, tP, kb, c3, sub1 _ hbf, hSB.mono sub1⟩, hrg, rfl, rfl, ⟨wd1, by omega, wd3, by omega⟩, rfl, rfl, ⟨_, _, .head _, hlk.mono fun v x c => c.mono sub1⟩, hfew.1, hfew.2.1, Nat.le_trans hfew.2.2 (by decide)⟩
                      · skip
                        rename_i D9 h9a F9a N9a l9a
                        have hTo : Offs s₁.heap.objs.size p D9 := Offs.gt lp lps l9a.2.2.2.2.2.2.1
                        rename News _ _ _ _ => kN
                        rename Fr _ _ _ _ => kF
                        exact hQQ _ ⟨_, _, _, _, rfl, kF, fun q hq => kN q (std_ap q hq), p, st, b0, b1, o3, ((ol, _) :: (D9, _) :: R), sl, _, W, H, P, _, _, _, _, ol, (xi ++ [(3 - x9.1, x9.2)]), _, _, ⟨_, _, _, _, _, _, _, _, _, _, rfl, ⟨_, c1⟩, ⟨_, c2⟩, c4, c5, hpo⟩, Aw.cons (Aw.mk1 lp lst lps lR (x := (D9, _)) hTo) (ol_offs ⟨ll, lop, los, loR⟩), rfl, hSA.mono sub2, hfew, ⟨bf, slb, tW, tH, tP, kb, c3, sub2 _ hbf, hSB.mono sub2⟩, hrg, rfl, rfl, ⟨wd1, by omega, wd3, by omega⟩, rfl, rfl, ⟨_, _, .head _, (hlki.mono fun v x c => c.mono sub2).snoc ⟨D9, _, _, _, rfl, .tail _ (.head _)⟩⟩, smp_flip hfew.1, by rw [List.length_append]; exact Nat.le_add_left _ _, by have h := hfew.2.2; rw [List.length_append] at h ⊢; exact Nat.le_trans h (by decide)⟩
                      · skip
                        rename News _ _ _ _ => kN
                        rename Fr _ _ _ _ => kF
                        exact hQQ _ ⟨_, _, _, _, rfl, kF, fun q hq => kN q (hq), p, st, b0, b1, o3, ((ol, _) :: R), sl, _, W, H, P, _, _, _, _, ol, _, _, _, ⟨_, _, _, _, _, _, _, _, _, _, rfl, ⟨_, c1⟩, ⟨_, c2⟩, c4, c5, hpo⟩, Aw.mk1 lp lst lps lR (ol_offs ⟨ll, lop, los, loR⟩), rfl, hSA.mono sub1, hfew, ⟨bf, slb, tW, tH, tP, kb, c3, sub1 _ hbf, hSB.mono sub1⟩, hrg, rfl, rfl, ⟨wd1, by omega, wd3, by omega⟩, rfl, rfl, ⟨_, _, .head _, hlk.mono fun v x c => c.mono sub1⟩, hfew.1, hfew.2.1, Nat.le_trans hfew.2.2 (by decide)⟩
                      --}8
                    · rintro s' ⟨h, tk, m, news, rfl, F, N, p, st, b0, b1, o3, R, sl, xs, W, H, P, W2, H2, tw, th, ol, ys, P2, tpr, ⟨o1, o2, o4, o5, x, y, tx, ty, kp, ks, rfl, ⟨v1, c1⟩, ⟨v2, c2⟩, c4, c5, hpo⟩, ⟨lp, lst, lps, lR⟩, hsl, hSA, hfew, ⟨bf, slb, tW, tH, tP, kb, c3, hbf, hSB⟩, hrg, hmw, hmh, hwd, hmp, hmo, hSO, hys1, hys2, hys3⟩
                      obtain ⟨np1, np2, np3, np4, np5, nps, pn1, pn2, pn3, pn4, pn5, pns⟩ := apart6 lp lps
                      replace F := fr_name F hsl
                      replace F := fr_name (x := "width") (v := .int W2 tw) F hmw
                      replace F := fr_name (x := "height") (v := .int H2 th) F hmh
                      replace F := fr_name (x := "precision") (v := .int P2 tpr) F hmp
                      replace F := fr_name (x := "others") (v := .ref ol) F hmo
                      try dsimp only
                      refine execs_midQ (Mid s₁.heap s₁.heap.objs.size s₁ (S9 s₁.heap.objs.size)) ?_ ?_
                      · --{9
                        intro QQ hQQ
                        k_with_none
                        k_steps
                        rename_i D9 h9a l9a h9b F9b N9b
                        have hTo : Offs s₁.heap.objs.size p D9 := Offs.gt lp lps l9a.2.2.2.2.2.2.1
                        rename News _ _ _ _ => kN
                        rename Fr _ _ _ _ => kF
                        exact hQQ _ ⟨_, _, _, _, rfl, kF, fun q hq => kN q (std_perm1 q hq), p, st, b0, b1, o3, (D9, _) :: R, sl, xs, W, H, P, W2, H2, ol, ys, P2, _, D9, ⟨_, _, _, _, _, _, _, _, _, _, rfl, ⟨_, c1⟩, ⟨_, c2⟩, c4, c5, hpo⟩, Aw.mk1 lp lst lps lR hTo, rfl, hSA.mono sub1, hfew, ⟨bf, slb, tW, tH, tP, kb, c3, sub1 _ hbf, hSB.mono sub1⟩, hrg, hwd, rfl, rfl, hSO.mono sub1, ⟨hys1, hys2, hys3⟩, rfl, ⟨ol, _, _, _, _, .head _, hSO.mono sub1⟩⟩
                        --}9
                      · rintro s' ⟨h, tk, m, news, rfl, F, N, p, st, b0, b1, o3, R, sl, xs, W, H, P, W2, H2, ol, ys, P2, tpr, nw, ⟨o1, o2, o4, o5, x, y, tx, ty, kp, ks, rfl, ⟨v1, c1⟩, ⟨v2, c2⟩, c4, c5, hpo⟩, ⟨lp, lst, lps, lR⟩, hsl, ⟨vs, kl, hls, hlk⟩, hfew, ⟨bf, slb, tW, tH, tP, kb, c3, hbf, hSB⟩, hrg, hwd, hmp, hmo, ⟨us, ku, hus, hlu⟩, hfour, hmn, hnow⟩
                        obtain ⟨np1, np2, np3, np4, np5, nps, pn1, pn2, pn3, pn4, pn5, pns⟩ := apart6 lp lps
                        replace F := fr_name F hsl
                        replace F := fr_name (x := "precision") (v := .int P2 tpr) F hmp
                        replace F := fr_name (x := "others") (v := .ref ol) F hmo
                        replace N := News.dup N hbf
                        try dsimp only
                        refine execs_midQ (Mid s₁.heap s₁.heap.objs.size s₁ (S10 s₁.heap.objs.size)) ?_ ?_
                        · --{10
                          intro QQ hQQ
                          k_with_none
                          k_with "call builtin:len" => (k_here; k_dflt (first | (refine led_len (by k_asm) (by exact sub8 hls) hlk.1 (Nat.lt_of_le_of_lt hfew.2.2 (by decide)) ?_) | (refine led_len (by k_asm) (by exact sub8 hus) hlu.1 (Nat.lt_of_le_of_lt hfour.2.2 (by decide)) ?_)))
                          k_steps
                          all_goals rename News _ _ _ _ => kN
                          all_goals rename Fr _ _ _ _ => kF
                          all_goals refine hQQ _ ⟨_, _, _, _, rfl, kF, fun q hq => kN q (std_undup q hq), p, st, b0, b1, o3, R, xs, W, H, P, W2, H2, ys, P2, nw, _, ⟨_, _, _, _, _, _, _, _, _, _, rfl, ⟨_, c1⟩, ⟨_, c2⟩, c4, c5, hpo⟩, ⟨lp, lst, lps, lR⟩, hfew, ⟨bf, slb, tW, tH, tP, kb, c3, hbf, hSB⟩, hrg, hwd, hfour, hmn, hnow, rfl, ?_⟩
                          · rw [beq_iff_eq]; exact ⟨fun h => ⟨by omega, h⟩, fun h => h.2⟩
                          · rw [beq_iff_eq]; exact ⟨fun h => absurd h (by assumption), fun h => by omega⟩
                          --}10
                        · rintro s' ⟨h, tk, m, news, rfl, F, N, p, st, b0, b1, o3, R, xs, W, H, P, W2, H2, ys, P2, nw, b, ⟨o1, o2, o4, o5, x, y, tx, ty, kp, ks, rfl, ⟨v1, c1⟩, ⟨v2, c2⟩, c4, c5, hpo⟩, ⟨lp, lst, lps, lR⟩, hfew, ⟨bf, slb, tW, tH, tP, kb, c3, hbf, ⟨vs, kl, hls, hlk⟩⟩, hrg, hwd, hfour, hmn, ⟨ol, tw, th, tpr, kn, hnw, ⟨us, ku, hus, hlu⟩⟩, hml, hbl⟩
                          obtain ⟨np1, np2, np3, np4, np5, nps, pn1, pn2, pn3, pn4, pn5, pns⟩ := apart6 lp lps
                          replace F := fr_name (x := "now") (v := .ref nw) F hmn
                          replace F := fr_name (x := "is_let") (v := .bool b) F hml
                          have hdim : Dim W2 H2 ys := ⟨hwd.1, hwd.2.1, hwd.2.2.1, hwd.2.2.2, hfour.1, Nat.lt_of_le_of_lt hfour.2.2 (by decide)⟩
                          have hdim' : Dim W H xs := dim_of_rng hrg hfew
                          try dsimp only
                          refine execs_midQ (Mid s₁.heap s₁.heap.objs.size s₁ (S11 s₁.heap.objs.size)) ?_ ?_
                          · --{11
                            intro QQ hQQ
                            k_with_none
                            k_with "exec For Tuple Call cons nil" => (k_here; (rename Fr _ _ _ _ => lF'); (with_unfolding_all refine' For_turns lF' ?_; k_whole))
                            k_with "call type:zip" => (refine Blk.out ?_)
                            k_with "call ref" => (k_here; (with_reducible show wpAny _ _ (PySem.call (PySem.Value.ref _) [PySem.Value.ref nw]) _ _ _); k_dflt (refine Ct.use (by k_asm) (by k_asm) (by k_asm) (by k_asm) (by k_asm) (by first | exact rfl | assumption) (lsizes_ct nw ol kn ku W2 H2 P2 tw th tpr us ys (by k_mem) (by k_mem) (hlu.mono fun v x c => c.mono fun q hq => by k_mem) hdim hfour.2.1) (by first | exact Nat.le_of_ble_eq_true rfl | ktr_room) (by first | exact Nat.le_of_ble_eq_true rfl | ktr_units) ?_); (intro ra na ha tka Fa Na hpa; obtain ⟨la, ka, ya, newa, rfl, rfl, hapa, hma, hlka⟩ := hpa))
                            k_with "call ref" => (k_here; (with_reducible show wpAny _ _ (PySem.call (PySem.Value.ref _) [PySem.Value.ref bf]) _ _ _); k_dflt (refine Ct.use (by k_asm) (by k_asm) (by k_asm) (by k_asm) (by k_asm) (by first | exact rfl | assumption) (lsizes_ct bf slb kb kl W H P tW tH tP vs xs (by k_mem) (by k_mem) (hlk.mono fun v x c => c.mono fun q hq => by k_mem) hdim' hfew.2.1) (by first | exact Nat.le_of_ble_eq_true rfl | ktr_room) (by first | exact Nat.le_of_ble_eq_true rfl | ktr_units) ?_); (intro rb nb hb tkb Fb Nb hpb; obtain ⟨lb, kb', yb, newb, rfl, rfl, hapb, hmb, hlkb⟩ := hpb))
                            k_with "call ref" => (k_here; k_dflt (refine Ct.use (by k_asm) (by k_asm) (by k_asm) (by k_asm) (by k_asm) (by first | exact rfl | assumption) (fits_ct _ _ _ _ _) (by first | exact Nat.le_of_ble_eq_true rfl | ktr_room) (by first | exact Nat.le_of_ble_eq_true rfl | ktr_units) ?_); intro r9 n9 h9 tk9 F9 N9 hp9; obtain ⟨rfl, rfl⟩ := hp9)
                            k_steps
                            refine Blk.mk ?_
                            have hsR : Sub R (newb ++ (newa ++ R)) := fun q hq => List.mem_append_right _ (List.mem_append_right _ hq)
                            have hsa : Sub newa (newb ++ (newa ++ R)) := fun q hq => List.mem_append_right _ (List.mem_append_left _ hq)
                            have hsb : Sub newb (newb ++ (newa ++ R)) := fun q hq => List.mem_append_left _ hq
                            have hoff : ∀ q ∈ newb ++ (newa ++ R), Offs s₁.heap.objs.size p q.1 := by
                              intro q hq
                              rcases List.mem_append.mp hq with hq | hq
                              · exact ⟨hapb q hq _ (List.mem_append_right _ (.head _)), hapb q hq _ (List.mem_append_right _ (.tail _ (.tail _ (.tail _ (.head _))))), hapb q hq _ (List.mem_append_right _ (.tail _ (.tail _ (.tail _ (.tail _ (.head _))))))⟩
                              · rcases List.mem_append.mp hq with hq | hq
                                · exact ⟨hapa q hq _ (.head _), hapa q hq _ (.tail _ (.tail _ (.tail _ (.head _)))), hapa q hq _ (.tail _ (.tail _ (.tail _ (.tail _ (.head _)))))⟩
                                · exact lR q hq
                            have Nz := cb_drop Nb std_app
                            generalize newb ++ (newa ++ R) = R9 at hsR hsa hsb hoff Nz
                            have hlka9 := hlka.mono (R' := PairAt R9) fun v x c => c.mono hsa
                            have hlkb9 := hlkb.mono (R' := PairAt R9) fun v x c => c.mono hsb
                            have hma9 := hsa _ hma
                            have hmb9 := hsb _ hmb
                            have hR2 : ∀ q ∈ R9, q.1 ≠ s₁.heap.objs.size + 1 + 1 := fun q hq => (hoff q hq).2.2
                            refine ktu_zip (l1 := la) (l2 := lb) (xs := ya) (ys := yb) rfl Fb Nz (sub7 _ hma9) rfl rfl (sub7 _ hmb9) rfl rfl (fun I hI => items_inv (JZ p _ _ _ _ _ st _ _ _ _ _ _ R9 b0 b1 (b && zall b0 b1 _ _) nw) ?_ ?_ _ _ _ ⟨o2, ya, yb, _, _, b, rfl, hlka9, hlkb9, rfl, ⟨_, c2⟩, rfl, rfl, rfl⟩)
                            · intro a r m' news' v' h' tk' hj ha F'
                              obtain ⟨o2', us', ls', A, B, bb, e, hA, hB, rfl, ⟨v2', c2'⟩, hml', htot, hmn'⟩ := hj
                              cases us' with
                              | nil => exact nomatch e
                              | cons u us' =>
                              cases ls' with
                              | nil => exact nomatch e
                              | cons l ls' =>
                              obtain ⟨rfl, rfl⟩ := List.cons.inj e
                              obtain ⟨x9, A', rfl, ⟨tu, ktu, tA1, tB1, rfl, hu⟩, hA2⟩ := lk_cons hA
                              obtain ⟨y9, B', rfl, ⟨tl, ktl, tA2, tB2, rfl, hl⟩, hB2⟩ := lk_cons hB
                              obtain ⟨T9, t9, rfl, hT'⟩ := ha
                              dsimp only at hT'
                              replace F' : Fr T.heap s₁.heap.objs.size h' m' := F'
                              replace F' := fr_name (x := "is_let") (v := .bool bb) F' hml'
                              have hI0 := hI
                              have hi2 : s₁.heap.objs.size + 1 + 1 < I := hI0 (_, o2) (.tail _ (.tail _ (.tail _ (.tail _ (.head _)))))
                              obtain ⟨hi20, hi21, hi22, hi23, hi24⟩ := gt5 hi2
                              k_lt hI
                              ktu_objs
                              k_steps
                              all_goals rename News _ _ _ _ => kN
                              all_goals rename Fr _ _ _ _ => kF
                              all_goals refine ⟨_, _, _, (p, penO x y tx ty kp) :: (_, o5) :: (_, o4) :: (_, o3) :: (_, _) :: (_, o1) :: (st, stepO b0 b1 ks) :: R9, rfl, kF, kN, its_off hI0, ⟨sub7 _ hma9, sub7 _ hmb9, trivial⟩, ⟨_, us', ls', A', B', _, rfl, hA2, hB2, rfl, ⟨_, by assumption⟩, rfl, ?_, hmn'⟩⟩
                              all_goals rw [← htot]
                              all_goals simp only [zall, *, Bool.true_and, Bool.false_and]
                            · intro m' n' h' tk' hj F' N'
                              obtain ⟨o2', us', ls', A, B, bb, e, hA, hB, rfl, hc2', hml', htot, hmn'⟩ := hj
                              refine hQQ _ ⟨_, _, _, _, rfl, F', N', p, st, b0, b1, o3, R9, xs, W, H, P, W2, H2, ys, P2, nw, bb, ⟨_, _, _, _, _, _, _, _, _, _, rfl, ⟨_, c1⟩, hc2', c4, c5, hpo⟩, ⟨lp, lst, lps, hoff⟩, hfew, ⟨bf, slb, tW, tH, tP, kb, c3, hsR _ hbf, ⟨vs, kl, hsR _ hls, hlk.mono fun v x c => c.mono hsR⟩⟩, hrg, hwd, hfour, hmn', ⟨ol, tw, th, tpr, kn, hsR _ hnw, ⟨us, ku, hsR _ hus, hlu.mono fun v x c => c.mono hsR⟩⟩, hml', ?_⟩
                              rw [← zall_lets hbl, ← htot, zall_nil e hA hB, Bool.and_true]
                            --}11
                          · rintro s' ⟨h, tk, m, news, rfl, F, N, p, st, b0, b1, o3, R, xs, W, H, P, W2, H2, ys, P2, nw, b, ⟨o1, o2, o4, o5, x, y, tx, ty, kp, ks, rfl, ⟨v1, c1⟩, ⟨v2, c2⟩, c4, c5, hpo⟩, ⟨lp, lst, lps, lR⟩, hfew, ⟨bf, slb, tW, tH, tP, kb, c3, hbf, ⟨vs, kl, hls, hlk⟩⟩, hrg, hwd, hfour, hmn, ⟨ol, tw, th, tpr, kn, hnw, ⟨us, ku, hus, hlu⟩⟩, hml, hbl⟩
                            obtain ⟨np1, np2, np3, np4, np5, nps, pn1, pn2, pn3, pn4, pn5, pns⟩ := apart6 lp lps
                            replace F := fr_name (x := "now") (v := .ref nw) F hmn
                            have hdim : Dim W2 H2 ys := ⟨hwd.1, hwd.2.1, hwd.2.2.1, hwd.2.2.2, hfour.1, Nat.lt_of_le_of_lt hfour.2.2 (by decide)⟩
                            have hdim' : Dim W H xs := dim_of_rng hrg hfew
                            have hw3 := hmem3 (a := (p, penO x y tx ty kp)) (b := (s₁.heap.objs.size + 1 + 1 + 1 + 1 + 1, o5)) (c := (s₁.heap.objs.size + 1 + 1 + 1 + 1, o4)) (d := (s₁.heap.objs.size + 1 + 1 + 1, o3)) (e := (s₁.heap.objs.size + 1 + 1, o2)) (f := (s₁.heap.objs.size + 1, o1)) (g := (st, stepO b0 b1 ks)) (R := R)
                            obtain ⟨hw3, hw5, hws⟩ := hw3
                            try dsimp only
                            refine execs_midQ (Mid s₁.heap s₁.heap.objs.size s₁ (S12 w₁ s₁.heap.objs.size)) ?_ ?_
                            · --{12
                              intro QQ hQQ
                              k_with_none
                              k_with "call ref" => (refine Blk.out ?_)
                              k_steps
                              refine Blk.mk ?_
                              refine Ct.use (by k_asm) (by k_asm) (by k_asm) (by k_asm) (by k_asm) (by first | exact rfl | assumption) (lframe_ct nw ol kn ku W2 H2 P2 tw th tpr us ys (by k_mem) (by k_mem) (hlu.mono fun v x c => c.mono fun q hq => by k_mem) hdim.2.2.2.2.2) (by first | exact Nat.le_of_ble_eq_true rfl | ktr_room) (by first | exact Nat.le_of_ble_eq_true rfl | ktr_units) ?_
                              intro ra na ha tka Fa Na hpa
                              obtain ⟨fa9, rfl, hsa, hfa⟩ := hpa
                              have ea3 := hsa _ hw3; have ea5 := hsa _ hw5; have eas := hsa _ hws; have eab := hsa _ (sub7 _ hbf); have eal := hsa _ (sub7 _ hls)
                              k_steps
                              refine Blk.mk ?_
                              refine Ct.use (by k_asm) (by k_asm) (by k_asm) (by k_asm) (by k_asm) (by first | exact rfl | assumption) (lframe_ct bf slb kb kl W H P tW tH tP vs xs (by k_mem) (by k_mem) (hlk.mono fun v x c => c.mono fun q hq => hsa _ (sub7 _ hq)) hdim'.2.2.2.2.2) (by first | exact Nat.le_of_ble_eq_true rfl | ktr_room) (by first | exact Nat.le_of_ble_eq_true rfl | ktr_units) ?_
                              intro rb nb hb tkb Fb Nb hpb
                              obtain ⟨fb9, rfl, hsb, hfb⟩ := hpb
                              k_steps
                              rename News _ _ _ _ => kN
                              rename Fr _ _ _ _ => kF
                              exact hQQ _ ⟨_, _, _, nb, rfl, kF, cb_drop kN sub1, b0, b1, W2, H2, P2, ys, W, H, P, xs, fa9, fb9, rfl, rfl, hfa.mono hsb, hfb, hdim, hdim', st, o5, ks, hsb _ ea5, c5, hsb _ eas, b, hml, hbl⟩
                              --}12
                            · rintro s' ⟨h, tk, m, news, rfl, F, N, b0, b1, W2, H2, P2, ys, W, H, P, xs, f, ah, hmf, hma, hF, hB, hdim, hdim', st, o5, ks, hw5, c5, hws, b, hml, hbl⟩
                              replace F := fr_name F hmf
                              replace F := fr_name (x := "ahead") (v := .ref ah) F hma
                              try dsimp only
                              refine execs_midQ (Mid s₁.heap s₁.heap.objs.size s₁ (S13 w₁ s₁.heap.objs.size)) ?_ ?_
                              · --{13
                                intro QQ hQQ
                                k_with_none
                                k_with "call ref" => (refine Blk.out ?_)
                                k_steps
                                refine Blk.mk ?_
                                refine Ct.use (by k_asm) (by k_asm) (by k_asm) (by k_asm) (by k_asm) (by first | exact rfl | assumption) (lrow_ct f W2 H2 P2 ys hF hdim.2.2.2.2.2) (by first | exact Nat.le_of_ble_eq_true rfl | ktr_room) (by first | exact Nat.le_of_ble_eq_true rfl | ktr_units) ?_
                                intro ra na ha tka Fa Na hpa
                                obtain ⟨hsa, hra⟩ := hpa
                                k_steps
                                refine Blk.mk ?_
                                refine Ct.use (by k_asm) (by k_asm) (by k_asm) (by k_asm) (by k_asm) (by first | exact rfl | assumption) (lrow_ct ah W H P xs (hB.mono hsa) hdim'.2.2.2.2.2) (by first | exact Nat.le_of_ble_eq_true rfl | ktr_room) (by first | exact Nat.le_of_ble_eq_true rfl | ktr_units) ?_
                                intro rb nb hb tkb Fb Nb hpb
                                obtain ⟨hsb, hrb⟩ := hpb
                                k_steps
                                rename News _ _ _ _ => kN
                                rename Fr _ _ _ _ => kF
                                exact hQQ _ ⟨_, _, _, _, rfl, kF, kN, b0, b1, W2, H2, P2, ys, W, H, P, xs, ⟨f, ah, rfl, rfl, hF.mono fun q hq => .tail _ (hsb _ (hsa _ hq)), hB.mono fun q hq => .tail _ (hsb _ (hsa _ hq)), hdim, hdim', st, o5, ks, .tail _ (hsb _ (hsa _ hw5)), c5, .tail _ (hsb _ (hsa _ hws)), b, hml, hbl⟩, _, _, ra, rb, rfl, .head _, hra.mono fun q hq => .tail _ (hsb _ hq), hrb.mono fun q hq => .tail _ hq⟩
                                --}13
                              · rintro s' ⟨h, tk, m, news, rfl, F, N, b0, b1, W2, H2, P2, ys, W, H, P, xs, ⟨f, ah, hmf, hma, hF, hB, hdim, hdim', st, o5, ks, hw5, c5, hws, b, hml, hbl⟩, rt, kr, r1, r2, hmr, hrt, hr1, hr2⟩
                                replace F := fr_name F hmf
                                replace F := fr_name (x := "ahead") (v := .ref ah) F hma
                                replace F := fr_name (x := "is_let") (v := .bool b) F hml
                                replace F := fr_name (x := "rows") (v := .ref rt) F hmr
                                try dsimp only
                                refine execs_midQ (Mid s₁.heap s₁.heap.objs.size s₁ (S14 w₁ s₁.heap.objs.size)) ?_ ?_
                                · --{14
                                  intro QQ hQQ
                                  k_with_none
                                  k_with "call ref" => (refine Blk.out ?_)
                                  refine wpAny_Try_except ?_
                                  k_steps
                                  refine Blk.mk ?_
                                  refine CtR.use (by k_asm) (by k_asm) (by k_asm) (by k_asm) (by k_asm) (by first | exact rfl | assumption) (check_ct f ah st ks b0 b1 W2 H2 P2 ys W H P xs hF hB hdim hdim' hws) (by first | exact Nat.le_of_ble_eq_true rfl | ktr_room) (by first | exact Nat.le_of_ble_eq_true rfl | ktr_units) ?_ ?_
                                  · rintro r na ha tka Fa Na ⟨rfl, rfl, hlets⟩
                                    k_steps
                                    rename News _ _ _ _ => kN
                                    rename Fr _ _ _ _ => kF
                                    have hb := hbl.mpr hlets
                                    exact hQQ _ ⟨_, _, _, _, rfl, kF, kN, b0, b1, W2, H2, P2, ys, W, H, P, xs, ⟨f, ah, rfl, rfl, hF, hB, hdim, hdim', st, o5, ks, hw5, c5, hws, b, rfl, hbl⟩, ⟨rt, kr, r1, r2, rfl, hrt, hr1, hr2⟩, b, rfl, by rw [hb]; rfl⟩
                                  · intro e g hr9 tkr Fg Ug Rf hnl
                                    dsimp only
                                    refine x_caught (A₀ := callerA) (outer := []) (x := "FrameError") rfl Fg Ug Rf KX (topRead_of T) ?_ ?_ (by rfl) (by rfl) (by decide)
                                    · k_is
                                    · intro h9 F9 N9
                                      k_steps
                                      rename News _ _ _ _ => kN
                                      rename Fr _ _ _ _ => kF
                                      have hb : b = false := by
                                        cases b with
                                        | false => rfl
                                        | true => exact absurd (hbl.mp rfl) hnl
                                      exact hQQ _ ⟨_, _, _, _, rfl, kF, kN, b0, b1, W2, H2, P2, ys, W, H, P, xs, ⟨f, ah, rfl, rfl, hF, hB, hdim, hdim', st, o5, ks, hw5, c5, hws, b, rfl, hbl⟩, ⟨rt, kr, r1, r2, rfl, hrt, hr1, hr2⟩, b, rfl, by rw [hb]; rfl⟩
                                  --}14
                                · rintro s' ⟨h, tk, m, news, rfl, F, N, b0, b1, W2, H2, P2, ys, W, H, P, xs, ⟨f, ah, hmf, hma, hF, hB, hdim, hdim', st, o5, ks, hw5, c5, hws, b9, hml9, hbl⟩, ⟨rt, kr, r1, r2, hmr, hrt, hr1, hr2⟩, b, hml, hmt⟩
                                  clear hml9 hbl
                                  replace F := fr_name F hmf
                                  replace F := fr_name (x := "ahead") (v := .ref ah) F hma
                                  replace F := fr_name (x := "is_let") (v := .bool b) F hml
                                  replace F := fr_name (x := "told") (v := .bool b) F hmt
                                  replace F := fr_name (x := "rows") (v := .ref rt) F hmr
                                  try dsimp only
                                  --{15
                                  k_with_none
                                  k_with "call ref" => (refine Blk.out ?_)
                                  k_with "compareOp Eq ref ref" => (refine Blk.out ?_)
                                  k_steps
                                  refine Blk.mk ?_
                                  refine Ct.use (by k_asm) (by k_asm) (by k_asm) (by k_asm) (by k_asm) (by first | exact rfl | assumption) (lrow_ct f W2 H2 P2 ys hF hdim.2.2.2.2.2) (by first | exact Nat.le_of_ble_eq_true rfl | ktr_room) (by first | exact Nat.le_of_ble_eq_true rfl | ktr_units) ?_
                                  intro ra na ha tka Fa Na hpa
                                  obtain ⟨hsa, hra⟩ := hpa
                                  k_steps
                                  refine Blk.mk ?_
                                  refine Ct.use (by k_asm) (by k_asm) (by k_asm) (by k_asm) (by k_asm) (by first | exact rfl | assumption) (lrow_ct ah W H P xs (hB.mono hsa) hdim'.2.2.2.2.2) (by first | exact Nat.le_of_ble_eq_true rfl | ktr_room) (by first | exact Nat.le_of_ble_eq_true rfl | ktr_units) ?_
                                  intro rb nb hb tkb Fb Nb hpb
                                  obtain ⟨hsb, hrb⟩ := hpb
                                  k_steps
                                  refine Blk.mk ?_
                                  rename News _ _ _ _ => kN
                                  refine rows_eq kN (.head _) (.tail _ (hsb _ (hsa _ hrt))) (hra.mono fun q hq => .tail _ (hsb _ hq)) (hrb.mono fun q hq => .tail _ hq) (hr1.mono fun q hq => .tail _ (hsb _ (hsa _ hq))) (hr2.mono fun q hq => .tail _ (hsb _ (hsa _ hq))) (by ke_room) ?_
                                  k_steps
                                  --}15
                                  )

end Mine
theorem PySem.Challenge.cw_ok0126_01_holds : PySem.Challenge.rw_ok0126_01.Holds :=
  Mine.law_holds
