import PyProof.Rows.All
import Wide.All
import OpenK.AllK
import Wide.FinOn
import PySem.Challenge.RW_xw0304_01
open PySem PySem.W PySem.Calls PySem.Spec PyProof.Rows
set_option Elab.async false
namespace Mine
section
set_option maxRecDepth 100000
set_option maxHeartbeats 8000000
open_top hd for PySem.Challenge.rw_xw0304_01
end

section BV
theorem fill : PySem.Challenge.rw_xw0304_01 = PySem.Challenge.rw_xw0304_01 ∧ hd.heap_39 = hd.heap_39 := by
  k_fill
  exact ⟨rfl, rfl⟩



theorem get_width {w : World} {A : Around} {E : Value → Shared → Prop} {s : Shared} {x dx L : Addr} {h₀ : Heap} {m : Str → Option Value} {news : List (Addr × Obj)} {t1 t2 : Tok} {rest : List DictEntry} {n : Nat} {expr : Bool} {Q : Value → Shared → Prop}
    (F : Fr h₀ L s.heap m) (X₀ : (hd.heap_39 w.params).In h₀) (N : News h₀ L s.heap news) (hx : (x, instObj 223 dx) ∈ news)
    (hdx : (dx, dictOf (⟨PyData.keyHash w.params (Str.ofString "width"), .str (Str.ofString "width") t1, .int 32 t2⟩ :: rest) n) ∈ news) (h : Q (.int 32 t2) { s with toks := s.toks + 1 }) :
    wpAny (model PySem.Challenge.rw_xw0304_01.row.prog w) A (getAttr (.ref x) (Str.ofString "width") expr) Q E s := by
  refine get_own (attr := none) F X₀ (InstAt.of_news N hx hdx) ?_ ?_ ?_ ?_ ?_ ?_ h
  · k_is
  · k_is
  · k_is
  · k_is
  · rfl
  · rfl

set_option maxRecDepth 100000 in
set_option maxHeartbeats 8000000 in
/-- checked_whole of a number that has a place -/
theorem cw_ok {w : World} {mean : ExcName → Option Value} {mg mb : Str → Option Value} {v : Int} (h1 : -2147483648 ≤ v) (h2 : v < 2147483648)
    {dp un : Nat} {gd : Option (List Code)} {cn : Str} {cs : Scope} {a : Addr} {ccd : Value} {cl : List (Str × Addr)} {outer : List Env} {A₀ : Around} {base h₀ : Heap} {L : Addr} {m : Str → Option Value} {news : List (Addr × Obj)} {s : Shared} {tv t2 : Tok} {Q E : Value → Shared → Prop}
    (B : Below A₀ base outer h₀) (F : Fr h₀ L s.heap m) (X : (hd.heap_39 w.params).In h₀) (N : News h₀ L s.heap news) (T : Top hd.view_39 (looseW hd.view_39 [Str.ofString "SnobolError"]) mean mg mb h₀) (hk : cs.kind = .function) (hdp : dp + 3 < recursionLimit) (hun : un + 24 < cLine)
    (hret : ∀ h' tk', Fr h₀ L h' m → News h₀ L h' news → Q (.int v tv) { s with heap := h', toks := tk' }) :
    wpAny (model PySem.Challenge.rw_xw0304_01.row.prog w) (ktrTop dp un gd cn cs L a ccd cl outer) (call (.ref 135) [.int v tv, .int 32 t2]) Q E s := by
  have hp : (1 : Int) * 2 ^ ((32 : Int) - 1).toNat = 2147483648 := by decide
  repeat' (first | ((with_reducible show wpAny _ _ (call (Value.ref _) _) _ _ _); refine wpAny_call ?_; k_dflt (refine' code_def ?k1 ?k2 ?k3 ?k4 ?k5 ?kA ?kF ?kK ?k6 ?k7 ?k8 ?k9 ?kB ?_ ?c2 ?c3 ?c4 ?c5; (case kA => exact rfl); (case kF => exact rfl); (case kK => first | exact rfl | assumption); (case k1 => k_asm); (case k2 => k_asm); (case k3 => k_asm); (case k4 => k_asm); (case k5 => k_asm); (case k6 => k_is); (case k7 => k_is); (case k8 => ktr_room); (case k9 => exact BindsTo.of_eq rfl); (case c5 => decide); (case kB => exact locs rfl); (case c2 => exact rfl); (case c3 => exact rfl); (case c4 => exact rfl); k_whole; intro g' L' h' FG' F' N' B' X' T'; (try dsimp only); (try k_lift B'); (try k_fold))) | (k_unfold; (try dsimp only)) | (k_end; wrow_close) | walk1 | (dsimp only; walk1) | (leave1; try dsimp only) | fail "no step")
  all_goals (refine' hret _ _ ?e2 ?e3; (case e2 => with_reducible assumption); (case e3 => with_reducible assumption))

set_option maxRecDepth 100000 in
set_option maxHeartbeats 8000000 in
/-- need_whole of a whole number -/
theorem nw_ok {w : World} {mean : ExcName → Option Value} {mg mb : Str → Option Value} {v : Int}
    {dp un : Nat} {gd : Option (List Code)} {cn : Str} {cs : Scope} {a : Addr} {ccd : Value} {cl : List (Str × Addr)} {outer : List Env} {A₀ : Around} {base h₀ : Heap} {L : Addr} {m : Str → Option Value} {news : List (Addr × Obj)} {s : Shared} {tv t2 : Tok} {Q E : Value → Shared → Prop}
    (B : Below A₀ base outer h₀) (F : Fr h₀ L s.heap m) (X : (hd.heap_39 w.params).In h₀) (N : News h₀ L s.heap news) (T : Top hd.view_39 (looseW hd.view_39 [Str.ofString "SnobolError"]) mean mg mb h₀) (hk : cs.kind = .function) (hdp : dp + 3 < recursionLimit) (hun : un + 24 < cLine)
    (hret : ∀ h' tk', Fr h₀ L h' m → News h₀ L h' news → Q (.int v tv) { s with heap := h', toks := tk' }) :
    wpAny (model PySem.Challenge.rw_xw0304_01.row.prog w) (ktrTop dp un gd cn cs L a ccd cl outer) (call (.ref 128) [.int v tv, .int 32 t2]) Q E s := by
  repeat' (first | ((with_reducible show wpAny _ _ (call (Value.ref _) _) _ _ _); refine wpAny_call ?_; k_dflt (refine' code_def ?k1 ?k2 ?k3 ?k4 ?k5 ?kA ?kF ?kK ?k6 ?k7 ?k8 ?k9 ?kB ?_ ?c2 ?c3 ?c4 ?c5; (case kA => exact rfl); (case kF => exact rfl); (case kK => first | exact rfl | assumption); (case k1 => k_asm); (case k2 => k_asm); (case k3 => k_asm); (case k4 => k_asm); (case k5 => k_asm); (case k6 => k_is); (case k7 => k_is); (case k8 => ktr_room); (case k9 => exact BindsTo.of_eq rfl); (case c5 => decide); (case kB => exact locs rfl); (case c2 => exact rfl); (case c3 => exact rfl); (case c4 => exact rfl); k_whole; intro g' L' h' FG' F' N' B' X' T'; (try dsimp only); (try k_lift B'); (try k_fold))) | (k_unfold; (try dsimp only)) | (k_end; wrow_close) | walk1 | (dsimp only; walk1) | (leave1; try dsimp only) | fail "no step")
  all_goals (refine' hret _ _ ?e2 ?e3; (case e2 => with_reducible assumption); (case e3 => with_reducible assumption))

theorem mul_size {f i : Int} (h1 : 1 ≤ i) (h2 : i ≤ 4) (f1 : 1 ≤ f) (f2 : f ≤ 64) : -2147483648 ≤ f * i ∧ f * i < 2147483648 := by
  have a : f * i ≤ 64 * 4 := Int.mul_le_mul f2 h2 (by omega) (by omega)
  have b : 0 ≤ f * i := Int.mul_nonneg (by omega) (by omega)
  omega

theorem pow_turn {one found : Int} {pre : List Int} {x : Int} (h : found = one ^ pre.length ∧ 1 ≤ found ∧ found ≤ 64) (h1 : 1 ≤ one) (h2 : one ≤ 4) (hk : pre.length < 3) : found * one = one ^ (pre ++ [x]).length ∧ 1 ≤ found * one ∧ found * one ≤ 64 := by
  obtain ⟨e, f1, f2⟩ := h
  have el : found * one = one ^ (pre ++ [x]).length := by rw [List.length_append, e]; exact (Int.pow_succ one pre.length).symm
  refine ⟨el, ?_, ?_⟩
  · have := Int.mul_le_mul f1 h1 (by omega) (by omega)
    omega
  · rw [el, List.length_append]
    have ho : one = 1 ∨ one = 2 ∨ one = 3 ∨ one = 4 := by omega
    have hl : pre.length = 0 ∨ pre.length = 1 ∨ pre.length = 2 := by omega
    rcases ho with rfl | rfl | rfl | rfl <;> rcases hl with q | q | q <;> rw [q] <;> simp

theorem pow_cell {i : Int} {n : Nat} (h1 : 1 ≤ i) (h : ([0, 1].any fun x => x == i) = true) : i = i ^ n := by
  have : i = 1 := by
    simp only [List.any_cons, List.any_nil, Bool.or_false, Bool.or_eq_true, beq_iff_eq] at h
    omega
  rw [this, Int.one_pow]

/-- what a call of binary_value within a frame of a def gives -/
def BVok (w : World) (mean : ExcName → Option Value) (mg mb : Str → Option Value) (op : Str) (i j : Int) (v : Int) : Prop :=
  ∀ (dp un : Nat) (gd : Option (List Code)) (cn : Str) (cs : Scope) (a : Addr) (ccd : Value) (cl : List (Str × Addr)) (outer : List Env) (A₀ : Around) (base h₀ : Heap) (L : Addr) (m : Str → Option Value) (news : List (Addr × Obj)) (s : Shared)
    (x dx : Addr) (t1 t2 tt ti tj : Tok) (rest : List DictEntry) (n : Nat) (Q E : Value → Shared → Prop),
    Below A₀ base outer h₀ → Fr h₀ L s.heap m → (hd.heap_39 w.params).In h₀ → News h₀ L s.heap news → Top hd.view_39 (looseW hd.view_39 [Str.ofString "SnobolError"]) mean mg mb h₀ → cs.kind = .function →
    (x, instObj 223 dx) ∈ news → (dx, dictOf (⟨PyData.keyHash w.params (Str.ofString "width"), .str (Str.ofString "width") t1, .int 32 t2⟩ :: rest) n) ∈ news →
    dp + 6 < recursionLimit → un + 48 < cLine →
    (∀ t h' tk', Fr h₀ L h' m → News h₀ L h' news → Q (.int v t) { s with heap := h', toks := tk' }) →
    wpAny (model PySem.Challenge.rw_xw0304_01.row.prog w) (ktrTop dp un gd cn cs L a ccd cl outer) (call (.ref 205) [.ref x, .str op tt, .int i ti, .int j tj]) Q E s

set_option maxRecDepth 100000 in
set_option maxHeartbeats 8000000 in
theorem bv_pow (w : World) (mean : ExcName → Option Value) (mg mb : Str → Option Value) (i j : Int) (h1 : 1 ≤ i) (h2 : i ≤ 4) (h3 : 1 ≤ j) (h4 : j ≤ 3) : BVok w mean mg mb (Str.ofString "**") i j (i ^ j.toNat) := by
  unfold BVok
  intro dp un gd cn cs a ccd cl outer A₀ base h₀ L m news s x dx t1 t2 tt ti tj rest n Q E B F X N T hk hx hdx hdp hun hret
  k_with "pyIter ref" => k_state_given ["one"] (fun one pre found => found = one ^ pre.length ∧ 1 ≤ found ∧ found ≤ 64) "found"
  k_with "state" => exact pow_turn ⟨by assumption, by assumption, by assumption⟩ h1 h2 (by omega)
  repeat' (first | ((with_reducible show wpAny _ _ (getAttr (Value.ref _) (Str.ofString "width") _) _ _ _); k_dflt (refine' get_width ?k1 ?k2 ?k3 ?k4 ?k5 ?_; (case k1 => k_asm); (case k2 => k_asm); (case k3 => k_asm); (case k4 => (repeat (first | assumption | refine List.Mem.tail _ ?_))); (case k5 => (repeat (first | assumption | refine List.Mem.tail _ ?_))); k_whole)) | ((with_reducible show wpAny _ _ (call (Value.ref 135) _) _ _ _); k_dflt (refine' cw_ok ?v1 ?v2 ?k1 ?k2 ?k3 ?k4 ?k5 ?kK ?kd ?ku ?_; (case k1 => k_asm); (case k2 => k_asm); (case k3 => k_asm); (case k4 => k_asm); (case k5 => k_asm); (case kK => first | exact rfl | assumption); (case kd => ktr_room); (case ku => ktr_units); (case v1 => first | omega | exact (mul_size (by omega) (by omega) (by omega) (by omega)).1); (case v2 => first | omega | exact (mul_size (by omega) (by omega) (by omega) (by omega)).2); k_whole; intro h' tk' F' N')) | ((with_reducible show wpAny _ _ (call (Value.ref 128) _) _ _ _); k_dflt (refine' nw_ok ?k1 ?k2 ?k3 ?k4 ?k5 ?kK ?kd ?ku ?_; (case k1 => k_asm); (case k2 => k_asm); (case k3 => k_asm); (case k4 => k_asm); (case k5 => k_asm); (case kK => first | exact rfl | assumption); (case kd => ktr_room); (case ku => ktr_units); k_whole; intro h' tk' F' N')) | ((with_reducible show wpAny _ _ (call (Value.ref _) _) _ _ _); refine wpAny_call ?_; k_dflt (refine' code_def ?k1 ?k2 ?k3 ?k4 ?k5 ?kA ?kF ?kK ?k6 ?k7 ?k8 ?k9 ?kB ?_ ?c2 ?c3 ?c4 ?c5; (case kA => exact rfl); (case kF => exact rfl); (case kK => first | exact rfl | assumption); (case k1 => k_asm); (case k2 => k_asm); (case k3 => k_asm); (case k4 => k_asm); (case k5 => k_asm); (case k6 => k_is); (case k7 => k_is); (case k8 => ktr_room); (case k9 => exact BindsTo.of_eq rfl); (case c5 => decide); (case kB => exact locs rfl); (case c2 => exact rfl); (case c3 => exact rfl); (case c4 => exact rfl); k_whole; intro g' L' h' FG' F' N' B' X' T'; (try dsimp only); (try k_lift B'); (try k_fold))) | (k_unfold; (try dsimp only)) | (k_end; wrow_close) | walk1 | (dsimp only; walk1) | (leave1; try dsimp only) | fail "no step")
  all_goals first
    | (exfalso; omega)
    | (refine' cb_retI hret ?e1 ?e2 (cb_drop ?e3 ?e4); (case e2 => with_reducible assumption); (case e3 => with_reducible assumption); (case e4 => (intro p hp; repeat (first | exact hp | refine List.Mem.tail _ ?_))); (case e1 => first | (rename ([0, 1].any _) = true => hc; exact pow_cell h1 hc) | (rename (_ = i ^ _) => hc; rw [hc, rangeKs_length, Int.sub_zero])))

set_option maxRecDepth 100000 in
set_option maxHeartbeats 8000000 in
theorem bv_add (w : World) (mean : ExcName → Option Value) (mg mb : Str → Option Value) (i j : Int) (h1 : -2147483648 ≤ i + j) (h2 : i + j < 2147483648) : BVok w mean mg mb (Str.ofString "+") i j (i + j) := by
  unfold BVok
  intro dp un gd cn cs a ccd cl outer A₀ base h₀ L m news s x dx t1 t2 tt ti tj rest n Q E B F X N T hk hx hdx hdp hun hret
  repeat' (first | ((with_reducible show wpAny _ _ (getAttr (Value.ref _) (Str.ofString "width") _) _ _ _); k_dflt (refine' get_width ?k1 ?k2 ?k3 ?k4 ?k5 ?_; (case k1 => k_asm); (case k2 => k_asm); (case k3 => k_asm); (case k4 => (repeat (first | assumption | refine List.Mem.tail _ ?_))); (case k5 => (repeat (first | assumption | refine List.Mem.tail _ ?_))); k_whole)) | ((with_reducible show wpAny _ _ (call (Value.ref 135) _) _ _ _); k_dflt (refine' cw_ok ?v1 ?v2 ?k1 ?k2 ?k3 ?k4 ?k5 ?kK ?kd ?ku ?_; (case k1 => k_asm); (case k2 => k_asm); (case k3 => k_asm); (case k4 => k_asm); (case k5 => k_asm); (case kK => first | exact rfl | assumption); (case kd => ktr_room); (case ku => ktr_units); (case v1 => first | omega | exact (mul_size (by omega) (by omega) (by omega) (by omega)).1); (case v2 => first | omega | exact (mul_size (by omega) (by omega) (by omega) (by omega)).2); k_whole; intro h' tk' F' N')) | ((with_reducible show wpAny _ _ (call (Value.ref 128) _) _ _ _); k_dflt (refine' nw_ok ?k1 ?k2 ?k3 ?k4 ?k5 ?kK ?kd ?ku ?_; (case k1 => k_asm); (case k2 => k_asm); (case k3 => k_asm); (case k4 => k_asm); (case k5 => k_asm); (case kK => first | exact rfl | assumption); (case kd => ktr_room); (case ku => ktr_units); k_whole; intro h' tk' F' N')) | ((with_reducible show wpAny _ _ (call (Value.ref _) _) _ _ _); refine wpAny_call ?_; k_dflt (refine' code_def ?k1 ?k2 ?k3 ?k4 ?k5 ?kA ?kF ?kK ?k6 ?k7 ?k8 ?k9 ?kB ?_ ?c2 ?c3 ?c4 ?c5; (case kA => exact rfl); (case kF => exact rfl); (case kK => first | exact rfl | assumption); (case k1 => k_asm); (case k2 => k_asm); (case k3 => k_asm); (case k4 => k_asm); (case k5 => k_asm); (case k6 => k_is); (case k7 => k_is); (case k8 => ktr_room); (case k9 => exact BindsTo.of_eq rfl); (case c5 => decide); (case kB => exact locs rfl); (case c2 => exact rfl); (case c3 => exact rfl); (case c4 => exact rfl); k_whole; intro g' L' h' FG' F' N' B' X' T'; (try dsimp only); (try k_lift B'); (try k_fold))) | (k_unfold; (try dsimp only)) | (k_end; wrow_close) | walk1 | (dsimp only; walk1) | (leave1; try dsimp only) | fail "no step")
  all_goals (refine' cb_retI hret ?e1 ?e2 (cb_drop ?e3 ?e4); (case e2 => with_reducible assumption); (case e3 => with_reducible assumption); (case e4 => (intro p hp; repeat (first | exact hp | refine List.Mem.tail _ ?_))); (case e1 => rfl))

set_option maxRecDepth 100000 in
set_option maxHeartbeats 8000000 in
theorem bv_sub (w : World) (mean : ExcName → Option Value) (mg mb : Str → Option Value) (i j : Int) (h1 : -2147483648 ≤ i - j) (h2 : i - j < 2147483648) : BVok w mean mg mb (Str.ofString "-") i j (i - j) := by
  unfold BVok
  intro dp un gd cn cs a ccd cl outer A₀ base h₀ L m news s x dx t1 t2 tt ti tj rest n Q E B F X N T hk hx hdx hdp hun hret
  repeat' (first | ((with_reducible show wpAny _ _ (getAttr (Value.ref _) (Str.ofString "width") _) _ _ _); k_dflt (refine' get_width ?k1 ?k2 ?k3 ?k4 ?k5 ?_; (case k1 => k_asm); (case k2 => k_asm); (case k3 => k_asm); (case k4 => (repeat (first | assumption | refine List.Mem.tail _ ?_))); (case k5 => (repeat (first | assumption | refine List.Mem.tail _ ?_))); k_whole)) | ((with_reducible show wpAny _ _ (call (Value.ref 135) _) _ _ _); k_dflt (refine' cw_ok ?v1 ?v2 ?k1 ?k2 ?k3 ?k4 ?k5 ?kK ?kd ?ku ?_; (case k1 => k_asm); (case k2 => k_asm); (case k3 => k_asm); (case k4 => k_asm); (case k5 => k_asm); (case kK => first | exact rfl | assumption); (case kd => ktr_room); (case ku => ktr_units); (case v1 => first | omega | exact (mul_size (by omega) (by omega) (by omega) (by omega)).1); (case v2 => first | omega | exact (mul_size (by omega) (by omega) (by omega) (by omega)).2); k_whole; intro h' tk' F' N')) | ((with_reducible show wpAny _ _ (call (Value.ref 128) _) _ _ _); k_dflt (refine' nw_ok ?k1 ?k2 ?k3 ?k4 ?k5 ?kK ?kd ?ku ?_; (case k1 => k_asm); (case k2 => k_asm); (case k3 => k_asm); (case k4 => k_asm); (case k5 => k_asm); (case kK => first | exact rfl | assumption); (case kd => ktr_room); (case ku => ktr_units); k_whole; intro h' tk' F' N')) | ((with_reducible show wpAny _ _ (call (Value.ref _) _) _ _ _); refine wpAny_call ?_; k_dflt (refine' code_def ?k1 ?k2 ?k3 ?k4 ?k5 ?kA ?kF ?kK ?k6 ?k7 ?k8 ?k9 ?kB ?_ ?c2 ?c3 ?c4 ?c5; (case kA => exact rfl); (case kF => exact rfl); (case kK => first | exact rfl | assumption); (case k1 => k_asm); (case k2 => k_asm); (case k3 => k_asm); (case k4 => k_asm); (case k5 => k_asm); (case k6 => k_is); (case k7 => k_is); (case k8 => ktr_room); (case k9 => exact BindsTo.of_eq rfl); (case c5 => decide); (case kB => exact locs rfl); (case c2 => exact rfl); (case c3 => exact rfl); (case c4 => exact rfl); k_whole; intro g' L' h' FG' F' N' B' X' T'; (try dsimp only); (try k_lift B'); (try k_fold))) | (k_unfold; (try dsimp only)) | (k_end; wrow_close) | walk1 | (dsimp only; walk1) | (leave1; try dsimp only) | fail "no step")
  all_goals (refine' cb_retI hret ?e1 ?e2 (cb_drop ?e3 ?e4); (case e2 => with_reducible assumption); (case e3 => with_reducible assumption); (case e4 => (intro p hp; repeat (first | exact hp | refine List.Mem.tail _ ?_))); (case e1 => rfl))

set_option maxRecDepth 100000 in
set_option maxHeartbeats 8000000 in
theorem bv_mul (w : World) (mean : ExcName → Option Value) (mg mb : Str → Option Value) (i j : Int) (h1 : -2147483648 ≤ i * j) (h2 : i * j < 2147483648) (hi : -2147483648 ≤ i ∧ i < 2147483648) (hj : -2147483648 ≤ j ∧ j < 2147483648) : BVok w mean mg mb (Str.ofString "*") i j (i * j) := by
  unfold BVok
  intro dp un gd cn cs a ccd cl outer A₀ base h₀ L m news s x dx t1 t2 tt ti tj rest n Q E B F X N T hk hx hdx hdp hun hret
  repeat' (first | ((with_reducible show wpAny _ _ (getAttr (Value.ref _) (Str.ofString "width") _) _ _ _); k_dflt (refine' get_width ?k1 ?k2 ?k3 ?k4 ?k5 ?_; (case k1 => k_asm); (case k2 => k_asm); (case k3 => k_asm); (case k4 => (repeat (first | assumption | refine List.Mem.tail _ ?_))); (case k5 => (repeat (first | assumption | refine List.Mem.tail _ ?_))); k_whole)) | ((with_reducible show wpAny _ _ (call (Value.ref 135) _) _ _ _); k_dflt (refine' cw_ok ?v1 ?v2 ?k1 ?k2 ?k3 ?k4 ?k5 ?kK ?kd ?ku ?_; (case k1 => k_asm); (case k2 => k_asm); (case k3 => k_asm); (case k4 => k_asm); (case k5 => k_asm); (case kK => first | exact rfl | assumption); (case kd => ktr_room); (case ku => ktr_units); (case v1 => first | omega | exact (mul_size (by omega) (by omega) (by omega) (by omega)).1); (case v2 => first | omega | exact (mul_size (by omega) (by omega) (by omega) (by omega)).2); k_whole; intro h' tk' F' N')) | ((with_reducible show wpAny _ _ (call (Value.ref 128) _) _ _ _); k_dflt (refine' nw_ok ?k1 ?k2 ?k3 ?k4 ?k5 ?kK ?kd ?ku ?_; (case k1 => k_asm); (case k2 => k_asm); (case k3 => k_asm); (case k4 => k_asm); (case k5 => k_asm); (case kK => first | exact rfl | assumption); (case kd => ktr_room); (case ku => ktr_units); k_whole; intro h' tk' F' N')) | ((with_reducible show wpAny _ _ (call (Value.ref _) _) _ _ _); refine wpAny_call ?_; k_dflt (refine' code_def ?k1 ?k2 ?k3 ?k4 ?k5 ?kA ?kF ?kK ?k6 ?k7 ?k8 ?k9 ?kB ?_ ?c2 ?c3 ?c4 ?c5; (case kA => exact rfl); (case kF => exact rfl); (case kK => first | exact rfl | assumption); (case k1 => k_asm); (case k2 => k_asm); (case k3 => k_asm); (case k4 => k_asm); (case k5 => k_asm); (case k6 => k_is); (case k7 => k_is); (case k8 => ktr_room); (case k9 => exact BindsTo.of_eq rfl); (case c5 => decide); (case kB => exact locs rfl); (case c2 => exact rfl); (case c3 => exact rfl); (case c4 => exact rfl); k_whole; intro g' L' h' FG' F' N' B' X' T'; (try dsimp only); (try k_lift B'); (try k_fold))) | (k_unfold; (try dsimp only)) | (k_end; wrow_close) | walk1 | (dsimp only; walk1) | (leave1; try dsimp only) | fail "no step")
  all_goals (refine' cb_retI hret ?e1 ?e2 (cb_drop ?e3 ?e4); (case e2 => with_reducible assumption); (case e3 => with_reducible assumption); (case e4 => (intro p hp; repeat (first | exact hp | refine List.Mem.tail _ ?_))); (case e1 => rfl))
end BV

section L1
/-- the law's own def, taken out of the given program -/
def bodyOf : Stmt → List Stmt
  | .FunctionDef _ _ b _ _ _ _ _ _ _ => b
  | .For _ _ b _ _ => b
  | _ => []
def scopeOf : Stmt → Scope
  | .FunctionDef _ _ _ _ _ _ s _ _ _ => s
  | _ => default
def nth : List Stmt → Nat → Stmt
  | [], _ => .Pass default
  | s :: _, 0 => s
  | _ :: r, n + 1 => nth r n
def lawDef : Stmt := nth PySem.Challenge.pw_xw0304_01.main.body 31
def lawScope : Scope := scopeOf lawDef
def st (n : Nat) : Stmt := nth (bodyOf lawDef) n
def tb (n : Nat) : Stmt := nth (bodyOf (st 6)) n
def lawEnv (L fa : Addr) (cd : Value) : Env := envOfC (Str.ofString "law") lawScope L fa cd

theorem bv_use {w : World} {mean : ExcName → Option Value} {mg mb : Str → Option Value} {op : Str} {i j v : Int} (C : BVok w mean mg mb op i j v)
    {dp un : Nat} {gd : Option (List Code)} {cn : Str} {cs : Scope} {a : Addr} {ccd : Value} {cl : List (Str × Addr)} {outer : List Env} {A₀ : Around} {base h₀ : Heap} {L : Addr} {m : Str → Option Value} {news : List (Addr × Obj)} {s : Shared}
    {x dx : Addr} {t1 t2 tt ti tj : Tok} {rest : List DictEntry} {n : Nat} {Q E : Value → Shared → Prop}
    (B : Below A₀ base outer h₀) (F : Fr h₀ L s.heap m) (X : (hd.heap_39 w.params).In h₀) (N : News h₀ L s.heap news) (T : Top hd.view_39 (looseW hd.view_39 [Str.ofString "SnobolError"]) mean mg mb h₀) (hk : cs.kind = .function)
    (hx : (x, instObj 223 dx) ∈ news) (hdx : (dx, dictOf (⟨PyData.keyHash w.params (Str.ofString "width"), .str (Str.ofString "width") t1, .int 32 t2⟩ :: rest) n) ∈ news)
    (hdp : dp + 6 < recursionLimit) (hun : un + 48 < cLine)
    (hret : ∀ t h' tk', Fr h₀ L h' m → News h₀ L h' news → Q (.int v t) { s with heap := h', toks := tk' }) :
    wpAny (model PySem.Challenge.rw_xw0304_01.row.prog w) (ktrTop dp un gd cn cs L a ccd cl outer) (call (.ref 205) [.ref x, .str op tt, .int i ti, .int j tj]) Q E s :=
  C _ _ _ _ _ _ _ _ _ _ _ _ _ _ _ _ _ _ _ _ _ _ _ _ _ _ _ B F X N T hk hx hdx hdp hun hret

theorem fr_norm {h₀ h : Heap} {L x : Addr} {m : Str → Option Value} {k j a d : Int} {tk tj ta td : Tok} (F : Fr h₀ L h m) (h1 : m (Str.ofString "world") = some (.ref x)) (h2 : m (Str.ofString "each") = some (.int k tk)) (h3 : m (Str.ofString "many") = some (.int j tj)) (h4 : m (Str.ofString "first") = some (.int a ta)) (h5 : m (Str.ofString "more") = some (.int d td)) :
    Fr h₀ L h (fun y => if y = Str.ofString "world" then some (.ref x) else if y = Str.ofString "each" then some (.int k tk) else if y = Str.ofString "many" then some (.int j tj) else if y = Str.ofString "first" then some (.int a ta) else if y = Str.ofString "more" then some (.int d td) else m y) := by
  have e : (fun y => if y = Str.ofString "world" then some (.ref x) else if y = Str.ofString "each" then some (.int k tk) else if y = Str.ofString "many" then some (.int j tj) else if y = Str.ofString "first" then some (.int a ta) else if y = Str.ofString "more" then some (.int d td) else m y) = m := by
    funext y
    by_cases q1 : y = Str.ofString "world"
    · rw [if_pos q1, q1]; exact h1.symm
    rw [if_neg q1]
    by_cases q2 : y = Str.ofString "each"
    · rw [if_pos q2, q2]; exact h2.symm
    rw [if_neg q2]
    by_cases q3 : y = Str.ofString "many"
    · rw [if_pos q3, q3]; exact h3.symm
    rw [if_neg q3]
    by_cases q4 : y = Str.ofString "first"
    · rw [if_pos q4, q4]; exact h4.symm
    rw [if_neg q4]
    by_cases q5 : y = Str.ofString "more"
    · rw [if_pos q5, q5]; exact h5.symm
    rw [if_neg q5]
  rw [e]
  exact F

theorem range_small {b : Int} (h : b ≤ 1000) (h' : 0 ≤ b) : Builtin.Range.small 1 b 1 = true := small_one (by omega) (by omega) (by omega) (by omega)

def addRow (a d : Int) (t : Nat) : List Int := (List.range (t + 1)).map fun (i : Nat) => a + (i : Int) * d
theorem addRow_length (a d : Int) (t : Nat) : (addRow a d t).length = t + 1 := by simp [addRow]
theorem addRow_succ (a d : Int) (t : Nat) : addRow a d (t + 1) = addRow a d t ++ [a + ((t + 1 : Nat) : Int) * d] := by
  unfold addRow
  rw [List.range_succ (n := t + 1), List.map_append]
  rfl
theorem addRow_last (a d : Int) (t : Nat) : (addRow a d t).getD t 0 = a + (t : Int) * d := by
  simp [addRow, List.getD]
theorem last_at {ns : List Int} {t : Nat} (h : ns.length = t + 1) : (-1 + (ns.length : Int)).toNat = t := by omega


set_option maxRecDepth 100000 in
set_option maxHeartbeats 8000000 in
theorem s5 {w : World} {mean : ExcName → Option Value} {mg mb : Str → Option Value} {L fa : Addr} {cd : Value} {base h₀ : Heap} {s : Shared} {Q : Flow → Shared → Prop}
    {a d k j : Int} {ta td tk tj t1 t2 : Tok} {x dx : Addr} {rest : List DictEntry} {n : Nat} {rc sc : Obj} {u : Str → Option Value} {rl : Addr} {n' : Nat}
    (ha : 0 ≤ a ∧ a ≤ 9) (hd' : 0 ≤ d ∧ d ≤ 9) (hk : 2 ≤ k ∧ k ≤ 4) (hj : 2 ≤ j ∧ j ≤ 4)
    (B : Below callerA base [] h₀) (X : (hd.heap_39 w.params).In h₀) (T : Top hd.view_39 (looseW hd.view_39 [Str.ofString "SnobolError"]) mean mg mb h₀)
    (F : Fr h₀ L s.heap (fun y => if y = Str.ofString "world" then some (.ref x) else if y = Str.ofString "each" then some (.int k tk) else if y = Str.ofString "many" then some (.int j tj) else if y = Str.ofString "first" then some (.int a ta) else if y = Str.ofString "more" then some (.int d td) else u y))
    (N : News h₀ L s.heap [(rl, PySem.W.listOf #[.int a ta] n'), (x, instObj 223 dx), (dx, dictOf (⟨PyData.keyHash w.params (Str.ofString "width"), .str (Str.ofString "width") t1, .int 32 t2⟩ :: rest) n), (L + 1 + 1, sc), (L + 1, rc)])
    (hrc : rc.data = .cell (some (.ref rl))) (hl1 : @LT.lt Nat _ (L + 1) dx) (hl2 : @LT.lt Nat _ (L + 1 + 1) dx) (hl3 : @LT.lt Nat _ dx x) (hl4 : @LT.lt Nat _ x rl)
    (hQ : ∀ (u' : Str → Option Value) h' tk' (vs : List Value) n'', IntsAre vs (addRow a d (k * j - 1).toNat) → Fr h₀ L h' (fun y => if y = Str.ofString "world" then some (.ref x) else if y = Str.ofString "each" then some (.int k tk) else if y = Str.ofString "many" then some (.int j tj) else if y = Str.ofString "first" then some (.int a ta) else if y = Str.ofString "more" then some (.int d td) else u' y) → News h₀ L h' [(rl, PySem.W.listOf vs.toArray n''), (x, instObj 223 dx), (dx, dictOf (⟨PyData.keyHash w.params (Str.ofString "width"), .str (Str.ofString "width") t1, .int 32 t2⟩ :: rest) n), (L + 1 + 1, sc), (L + 1, rc)] → Q .next { s with heap := h', toks := tk' }) :
    wpAny (model PySem.Challenge.rw_xw0304_01.row.prog w) (callerA.deeper (lawEnv L fa cd)) (exec (st 5) (lawEnv L fa cd)) Q (fun _ _ => False) s := by
  dsimp only [lawEnv, lawScope, scopeOf, st, lawDef, bodyOf, nth, PySem.Challenge.pw_xw0304_01]
  have hkj : 4 ≤ k * j ∧ k * j ≤ 16 := by
    have h1 : (2 : Int) * 2 ≤ k * j := Int.mul_le_mul hk.1 hj.1 (by omega) (by omega)
    have h2 : k * j ≤ 4 * 4 := Int.mul_le_mul hk.2 hj.2 (by omega) (by omega)
    omega
  repeat' ((fail_if_success (with_reducible show wpAny _ _ (pyIter (Value.ref _)) _ _ _)); first  | walk1)
  refine' kst_range (σ := List Value × List Int × Nat) (fun c => [(rl, PySem.W.listOf c.1.toArray c.2.2), (x, instObj 223 dx), (dx, dictOf (⟨PyData.keyHash w.params (Str.ofString "width"), .str (Str.ofString "width") t1, .int 32 t2⟩ :: rest) n), (L + 1 + 1, sc), (L + 1, rc)]) (fun _ => []) (fun c => IntsAre c.1 c.2.1) [] (fun pre c => c.2.1 = addRow a d pre.length ∧ c.2.1.length = pre.length + 1) ([.int a ta], [a], n') (n := (k * j - 1).toNat) (by rfl) (by assumption) (range_small (by omega) (by omega)) (rangeSize_nat _ _) (by assumption) ?cNews ?cInts ?cKeys ?cStart ?cTurn ?cDone
  case cNews => with_unfolding_all assumption
  case cInts => exact .cons _ _ .nil
  case cKeys => exact fun p hp => nomatch hp
  case cStart => exact ⟨by simp [addRow], rfl⟩
  case cTurn =>
    rintro ⟨vs, ns, nn⟩ pre kk t u' h tk' own hkk hlt hoff hI ⟨hP, hlen⟩ F' N'
    dsimp only at hI hP hlen N'
    dsimp only [envOfC] at F' N'
    simp only [List.cons_append, List.nil_append] at N'
    simp only [List.map] at hoff
    have hMk := kstMark
    have hlast : ns.getD (-1 + (ns.length : Int)).toNat 0 = a + (pre.length : Int) * d := by
      rw [last_at hlen, hP, addRow_last]
    have hb : 0 ≤ (pre.length : Int) * d ∧ (pre.length : Int) * d ≤ 16 * 9 := by
      have hq : pre.length ≤ 15 := by omega
      exact ⟨Int.mul_nonneg (by omega) hd'.1, Int.mul_le_mul (by omega) hd'.2 hd'.1 (by omega)⟩
    repeat' ((fail_if_success (with_reducible show InvPostN _ _ _ _ _ _ _ _ _)); first | ((with_reducible show wpAny _ _ (call (Value.ref 205) [_, Value.str (Str.ofString "+") _, _, _]) _ _ _); k_dflt (refine' bv_use (bv_add _ _ _ _ _ _ ?b1 ?b2) ?k1 ?k2 ?k3 ?k4 ?k5 ?kK ?m1 ?m2 ?kd ?ku ?_; (case k1 => k_asm); (case k2 => k_asm); (case k3 => k_asm); (case k4 => k_asm); (case k5 => k_asm); (case kK => first | exact rfl | assumption); (case m1 => k_mem); (case m2 => k_mem); (case kd => ktr_room); (case ku => ktr_units); (case b1 => omega); (case b2 => omega); k_whole; intro t' h' tk' F' N')) | walk1)
    rename Fr _ _ _ _ => F9
    rename News _ _ _ _ => N9
    simp only [List.push_toArray] at N9
    refine kst_end (vs ++ [_], ns ++ [_], nn + 1) F9 N9 (fun p hp => List.mem_append_left own hp) (fun p hp => .tail _ (.tail _ (.tail _ (.tail _ (.tail _ hp))))) rfl (IntsAre.append hI (.cons _ _ .nil)) (fun p hp => nomatch hp) (fun z hz _ _ => (if_neg hz).trans rfl) ⟨?_, ?_⟩
    · dsimp only
      rw [hlast, List.length_append, hP, List.length_singleton, addRow_succ]
      congr 2
      push_cast
      rw [Int.add_mul]
      omega
    · dsimp only
      rw [List.length_append, List.length_append, hlen]
      rfl
  case cDone =>
    rintro ⟨vs, ns, nn⟩ u' h tk' hI ⟨hP, hlen⟩ F' N'
    dsimp only at hI hP hlen N' F'
    rw [rangeKs_length] at hP
    subst hP
    exact hQ _ h tk' vs nn hI (fr_norm F' rfl rfl rfl rfl rfl) N'
end L1

local macro_rules | `(tactic| k_ne) => `(tactic| (refine neN ?_; (try dsimp only); first | with_reducible assumption | (refine Ne.symm ?_; with_reducible assumption) | (rename ((_ ≠ _ ∧ _) ∧ _) => hk9; (simp only [hk9, ne_eq, not_false_eq_true]; done)) | (rename ((_ ≠ _ ∧ _) ∧ _) => hk9; refine Ne.symm ?_; (simp only [hk9, ne_eq, not_false_eq_true]; done)) | omega))

section B0
theorem item_led {w : World} {A : Around} {E : Value → Shared → Prop} {s : Shared} {h₀ : Heap} {L l : Addr} {news : List (Addr × Obj)} {vs : List Value} {ns : List Int} {nn : Nat} {i : Int} {u : Tok} {value slice : Expr} {Q : Value → Shared → Prop}
    (N : News h₀ L s.heap news) (hm : (l, PySem.W.listOf vs.toArray nn) ∈ news) (hI : IntsAre vs ns) (h0 : 0 ≤ i) (hi : i < (ns.length : Int)) (hf : (ns.length : Int) < 2 ^ 62) (h : ∀ t, Q (.int (ns.getD i.toNat 0) t) s)
    (hs : subscripted slice false (.ref l) (.int i u) = operate [.ref l, .int i u] (getItem (.ref l) (.int i u)) := by with_unfolding_all rfl) :
    wpAny (model PySem.Challenge.rw_xw0304_01.row.prog w) A (subscriptTail value slice (.ref l) (.int i u)) Q E s := by
  have hl : s.heap.IsList l vs.toArray := ⟨_, (N _ hm).1, rfl, nn, rfl⟩
  have hlt : i.toNat < ns.length := by omega
  have hg : ns[i.toNat]? = some (ns.getD i.toNat 0) := by
    rw [List.getD_eq_getElem?_getD, List.getElem?_eq_getElem hlt]; rfl
  obtain ⟨t, ht⟩ := hI.get i.toNat _ hg
  exact tail_any hl.typeIs slot_list_getitem.lookup (wpAny_getItem_list hl h0 (by omega) (by simpa using ht) (h t)) hs

/-- what a stage leaves standing: of a row those whose place is no multiple of g -/
def strike (g : Int) (ns : List Int) : List Int :=
  List.foldl (fun l' k' => if ¬(k' + 1).fmod g = 0 then l' ++ [ns.getD k'.toNat 0] else l') [] (rangeKs 0 ((ns.length : Int) - 0).toNat)

set_option maxRecDepth 100000 in
set_option maxHeartbeats 8000000 in
theorem tb0 {w : World} {mean : ExcName → Option Value} {mg mb : Str → Option Value} {L fa : Addr} {cd : Value} {base h₀ : Heap} {s : Shared} {Q : Flow → Shared → Prop}
    {a d k j : Int} {ta td tk tj t1 t2 : Tok} {x dx : Addr} {rest : List DictEntry} {n : Nat} {rc sc : Obj} {u : Str → Option Value} {I : Addr} {oI : Obj} {rl : Addr} {n' : Nat} {vs : List Value} {ns : List Int} {g : Int} {tg : Tok}
    (hg : 2 ≤ g ∧ g ≤ 4) (hlen : ns.length ≤ 16) (hI : IntsAre vs ns)
    (B : Below callerA base [] h₀) (X : (hd.heap_39 w.params).In h₀) (T : Top hd.view_39 (looseW hd.view_39 [Str.ofString "SnobolError"]) mean mg mb h₀)
    (F : Fr h₀ L s.heap (fun y => if y = Str.ofString "world" then some (.ref x) else if y = Str.ofString "each" then some (.int k tk) else if y = Str.ofString "many" then some (.int j tj) else if y = Str.ofString "first" then some (.int a ta) else if y = Str.ofString "more" then some (.int d td) else u y))
    (N : News h₀ L s.heap [(rl, PySem.W.listOf vs.toArray n'), (x, instObj 223 dx), (dx, dictOf (⟨PyData.keyHash w.params (Str.ofString "width"), .str (Str.ofString "width") t1, .int 32 t2⟩ :: rest) n), (L + 1 + 1, sc), (L + 1, rc), (I, oI)])
    (hrc : rc.data = .cell (some (.ref rl))) (hsc : sc.data = .cell (some (.int g tg))) (hl1 : @LT.lt Nat _ (L + 1) dx) (hl2 : @LT.lt Nat _ (L + 1 + 1) dx) (hl3 : @LT.lt Nat _ dx x) (hlI : @LT.lt Nat _ x I) (hl4 : ((@Ne Nat x rl) ∧ (@Ne Nat dx rl) ∧ (@Ne Nat (L + 1 + 1) rl) ∧ (@Ne Nat (L + 1) rl) ∧ (@Ne Nat I rl)))
    (hQ : ∀ (kl : Addr) (ys : List Value) h' tk', IntsAre ys (strike g ns) → ((@Ne Nat x kl) ∧ (@Ne Nat dx kl) ∧ (@Ne Nat (L + 1 + 1) kl) ∧ (@Ne Nat (L + 1) kl) ∧ (@Ne Nat I kl)) → Fr h₀ L h' (fun z => if z = Str.ofString "kept" then some (.ref kl) else (fun y => if y = Str.ofString "world" then some (.ref x) else if y = Str.ofString "each" then some (.int k tk) else if y = Str.ofString "many" then some (.int j tj) else if y = Str.ofString "first" then some (.int a ta) else if y = Str.ofString "more" then some (.int d td) else u y) z) → News h₀ L h' [(kl, PySem.W.listOf ys.toArray ys.length), (x, instObj 223 dx), (dx, dictOf (⟨PyData.keyHash w.params (Str.ofString "width"), .str (Str.ofString "width") t1, .int 32 t2⟩ :: rest) n), (L + 1 + 1, sc), (L + 1, rc), (I, oI)] → Q .next { s with heap := h', toks := tk' }) :
    wpAny (model PySem.Challenge.rw_xw0304_01.row.prog w) (callerA.deeper (lawEnv L fa cd)) (exec (tb 0) (lawEnv L fa cd)) Q (fun _ _ => False) s := by
  dsimp only [tb]
  dsimp only [lawEnv, lawScope, scopeOf, st, lawDef, bodyOf, nth, PySem.Challenge.pw_xw0304_01]
  repeat' (first | ((with_reducible show wpAny _ _ (subscriptTail _ _ (Value.ref _) (Value.int _ _)) _ _ _); k_dflt (refine' item_led ?k1 ?k2 ?k3 ?k4 ?k5 ?k6 ?_ ?k7; (case k1 => k_asm); (case k2 => k_mem); (case k3 => with_reducible assumption); (case k7 => with_unfolding_all rfl); (case k4 => omega); (case k5 => omega); (case k6 => omega)); intro t') | (k_unfold; (try dsimp only)) | (k_end; wrow_close) | walk1 | (dsimp only; walk1) | (leave1; try dsimp only) | fail "no step")
  rename Fr _ _ _ _ => F9
  rename News _ _ _ _ => N9
  rename IntsAre _ _ => I9
  rename (_ ≠ _ ∧ _) => o9
  exact hQ _ _ _ _ I9 o9.2 F9 (cb_drop N9 (fun p hp => (List.mem_cons.mp hp).elim (fun e => e ▸ .head _) fun h => .tail _ (.tail _ h)))
end B0

section B1
/-- running sums -/
def psum : Int → List Int → List Int
  | _, [] => []
  | b, x :: r => (b + x) :: psum (b + x) r
theorem psum_snoc (x : Int) : ∀ (l : List Int) (b : Int), psum b (l ++ [x]) = psum b l ++ [b + l.sum + x]
  | [], b => by simp [psum]
  | y :: r, b => by
    rw [List.cons_append, psum, psum, psum_snoc x r, List.sum_cons, List.cons_append, Int.add_assoc b y]
theorem psum_length : ∀ (l : List Int) (b : Int), (psum b l).length = l.length
  | [], _ => rfl
  | _ :: r, b => by rw [psum, List.length_cons, List.length_cons, psum_length r]
theorem psum_last (x : Int) (l : List Int) (b : Int) : (psum b (l ++ [x])).getD l.length 0 = b + l.sum + x := by
  rw [psum_snoc, List.getD_eq_getElem?_getD, List.getElem?_append_right (by rw [psum_length]; exact Nat.le_refl _), psum_length, Nat.sub_self]
  rfl
theorem psum_last' {l : List Int} {t : Nat} (h : l.length = t + 1) : (psum 0 l).getD t 0 = l.sum := by
  have hne : l ≠ [] := by intro e; rw [e] at h; cases h
  have e := List.dropLast_concat_getLast hne
  have hl : l.dropLast.length = t := by rw [List.length_dropLast, h]; rfl
  have q := psum_last (l.getLast hne) l.dropLast 0
  rw [e, hl] at q
  rw [q]
  have s := congrArg List.sum e
  rw [List.sum_append] at s
  simp only [List.sum_cons, List.sum_nil] at s
  omega
theorem psum_diff : ∀ (l : List Int) (b : Int) (i : Nat), i + 1 < l.length → (psum b l).getD (i + 1) 0 - (psum b l).getD i 0 = l.getD (i + 1) 0
  | [], _, _, h => by simp at h
  | [_], _, _, h => by simp at h
  | x :: y :: r, b, 0, _ => by simp [psum, List.getD]; omega
  | x :: y :: r, b, i + 1, h => by
    have := psum_diff (y :: r) (b + x) i (by simp at h ⊢; omega)
    simpa [psum, List.getD] using this
theorem psum_take1 (l : List Int) : (psum 0 l).take 1 = l.take 1 := by
  cases l with
  | nil => rfl
  | cons x r => simp [psum]
theorem sum_bound {M : Int} : ∀ {l : List Int}, (∀ v ∈ l, 0 ≤ v ∧ v ≤ M) → 0 ≤ l.sum ∧ l.sum ≤ (l.length : Int) * M
  | [], _ => by simp
  | x :: r, h => by
    have h1 := h x (.head _)
    have h2 := sum_bound fun v hv => h v (.tail _ hv)
    have e : ((r.length + 1 : Nat) : Int) * M = (r.length : Int) * M + M := by rw [Int.natCast_add, Int.add_mul]; simp
    rw [List.sum_cons, List.length_cons, e]
    omega
theorem psum_one {l : List Int} (h : 1 ≤ l.length) : l.take 1 = psum 0 (l.take 1) := by
  cases l with
  | nil => cases h
  | cons x r => simp [psum]
theorem take_next {l pre post : List Int} {n : Int} (e : l.drop 1 = pre ++ n :: post) (h : 1 ≤ l.length) : l = (l.take 1 ++ pre) ++ n :: post := by
  conv => lhs; rw [← List.take_append_drop 1 l, e]
  rw [List.append_assoc]

theorem fr_norm3 {h₀ h : Heap} {L x sl kl : Addr} {m : Str → Option Value} {k j a d : Int} {tk tj ta td : Tok} (F : Fr h₀ L h m) (h0 : m (Str.ofString "sums") = some (.ref sl)) (h1 : m (Str.ofString "kept") = some (.ref kl)) (h2 : m (Str.ofString "world") = some (.ref x)) (h3 : m (Str.ofString "each") = some (.int k tk)) (h4 : m (Str.ofString "many") = some (.int j tj)) (h5 : m (Str.ofString "first") = some (.int a ta)) (h6 : m (Str.ofString "more") = some (.int d td)) :
    Fr h₀ L h (fun y => if y = Str.ofString "sums" then some (.ref sl) else if y = Str.ofString "kept" then some (.ref kl) else if y = Str.ofString "world" then some (.ref x) else if y = Str.ofString "each" then some (.int k tk) else if y = Str.ofString "many" then some (.int j tj) else if y = Str.ofString "first" then some (.int a ta) else if y = Str.ofString "more" then some (.int d td) else m y) := by
  have e : (fun y => if y = Str.ofString "sums" then some (.ref sl) else if y = Str.ofString "kept" then some (.ref kl) else if y = Str.ofString "world" then some (.ref x) else if y = Str.ofString "each" then some (.int k tk) else if y = Str.ofString "many" then some (.int j tj) else if y = Str.ofString "first" then some (.int a ta) else if y = Str.ofString "more" then some (.int d td) else m y) = m := by
    funext y
    by_cases q0 : y = Str.ofString "sums"
    · rw [if_pos q0, q0]; exact h0.symm
    rw [if_neg q0]
    by_cases q1 : y = Str.ofString "kept"
    · rw [if_pos q1, q1]; exact h1.symm
    rw [if_neg q1]
    by_cases q2 : y = Str.ofString "world"
    · rw [if_pos q2, q2]; exact h2.symm
    rw [if_neg q2]
    by_cases q3 : y = Str.ofString "each"
    · rw [if_pos q3, q3]; exact h3.symm
    rw [if_neg q3]
    by_cases q4 : y = Str.ofString "many"
    · rw [if_pos q4, q4]; exact h4.symm
    rw [if_neg q4]
    by_cases q5 : y = Str.ofString "first"
    · rw [if_pos q5, q5]; exact h5.symm
    rw [if_neg q5]
    by_cases q6 : y = Str.ofString "more"
    · rw [if_pos q6, q6]; exact h6.symm
    rw [if_neg q6]
  rw [e]
  exact F


set_option maxRecDepth 100000 in
set_option maxHeartbeats 8000000 in
theorem tb1 {w : World} {mean : ExcName → Option Value} {mg mb : Str → Option Value} {L fa : Addr} {cd : Value} {base h₀ : Heap} {s : Shared} {Q : Flow → Shared → Prop}
    {a d k j : Int} {ta td tk tj t1 t2 : Tok} {x dx : Addr} {rest : List DictEntry} {n : Nat} {rc sc : Obj} {u : Str → Option Value} {I : Addr} {oI : Obj} {kl : Addr} {nk : Nat} {ys : List Value} {ks : List Int}
    (hlen : ks.length ≤ 16) (hpos : 1 ≤ ks.length) (hI : IntsAre ys ks)
    (B : Below callerA base [] h₀) (X : (hd.heap_39 w.params).In h₀) (T : Top hd.view_39 (looseW hd.view_39 [Str.ofString "SnobolError"]) mean mg mb h₀)
    (F : Fr h₀ L s.heap (fun y => if y = Str.ofString "kept" then some (.ref kl) else if y = Str.ofString "world" then some (.ref x) else if y = Str.ofString "each" then some (.int k tk) else if y = Str.ofString "many" then some (.int j tj) else if y = Str.ofString "first" then some (.int a ta) else if y = Str.ofString "more" then some (.int d td) else u y))
    (N : News h₀ L s.heap [(kl, PySem.W.listOf ys.toArray nk), (x, instObj 223 dx), (dx, dictOf (⟨PyData.keyHash w.params (Str.ofString "width"), .str (Str.ofString "width") t1, .int 32 t2⟩ :: rest) n), (L + 1 + 1, sc), (L + 1, rc), (I, oI)])
    (hl1 : @LT.lt Nat _ (L + 1) dx) (hl2 : @LT.lt Nat _ (L + 1 + 1) dx) (hl3 : @LT.lt Nat _ dx x) (hlI : @LT.lt Nat _ x I) (hl4 : ((@Ne Nat x kl) ∧ (@Ne Nat dx kl) ∧ (@Ne Nat (L + 1 + 1) kl) ∧ (@Ne Nat (L + 1) kl) ∧ (@Ne Nat I kl)))
    (hQ : ∀ (sl : Addr) (ss : List Value) h' tk', IntsAre ss (ks.take 1) → ((@Ne Nat x sl) ∧ (@Ne Nat dx sl) ∧ (@Ne Nat (L + 1 + 1) sl) ∧ (@Ne Nat (L + 1) sl) ∧ (@Ne Nat I sl)) → @Ne Nat kl sl → Fr h₀ L h' (fun y => if y = Str.ofString "sums" then some (.ref sl) else if y = Str.ofString "kept" then some (.ref kl) else if y = Str.ofString "world" then some (.ref x) else if y = Str.ofString "each" then some (.int k tk) else if y = Str.ofString "many" then some (.int j tj) else if y = Str.ofString "first" then some (.int a ta) else if y = Str.ofString "more" then some (.int d td) else u y) → News h₀ L h' [(sl, PySem.W.listOf ss.toArray 0), (kl, PySem.W.listOf ys.toArray nk), (x, instObj 223 dx), (dx, dictOf (⟨PyData.keyHash w.params (Str.ofString "width"), .str (Str.ofString "width") t1, .int 32 t2⟩ :: rest) n), (L + 1 + 1, sc), (L + 1, rc), (I, oI)] → Q .next { s with heap := h', toks := tk' }) :
    wpAny (model PySem.Challenge.rw_xw0304_01.row.prog w) (callerA.deeper (lawEnv L fa cd)) (exec (tb 1) (lawEnv L fa cd)) Q (fun _ _ => False) s := by
  dsimp only [tb]
  dsimp only [lawEnv, lawScope, scopeOf, st, lawDef, bodyOf, nth, PySem.Challenge.pw_xw0304_01]
  k_steps
  rename Fr _ _ _ _ => F9
  rename News _ _ _ _ => N9
  rename IntsAre _ (List.take 1 ks) => I9
  rename (_ < _ ∧ _) => o9
  exact hQ _ _ _ _ I9 (by refine ⟨?_, ?_, ?_, ?_, ?_⟩ <;> refine neN ?_ <;> omega) (by refine neN ?_; omega) F9 N9

set_option maxRecDepth 100000 in
set_option maxHeartbeats 8000000 in
theorem tb2 {w : World} {mean : ExcName → Option Value} {mg mb : Str → Option Value} {L fa : Addr} {cd : Value} {base h₀ : Heap} {s : Shared} {Q : Flow → Shared → Prop}
    {a d k j : Int} {ta td tk tj t1 t2 : Tok} {x dx : Addr} {rest : List DictEntry} {n : Nat} {rc sc : Obj} {u : Str → Option Value} {I : Addr} {oI : Obj} {kl sl : Addr} {nk nt : Nat} {ys ss : List Value} {ks : List Int}
    (hlen : ks.length ≤ 16) (hpos : 1 ≤ ks.length) (hB : ∀ v ∈ ks, 0 ≤ v ∧ v ≤ 1000000) (hI : IntsAre ys ks) (hI1 : IntsAre ss (ks.take 1))
    (B : Below callerA base [] h₀) (X : (hd.heap_39 w.params).In h₀) (T : Top hd.view_39 (looseW hd.view_39 [Str.ofString "SnobolError"]) mean mg mb h₀)
    (F : Fr h₀ L s.heap (fun y => if y = Str.ofString "sums" then some (.ref sl) else if y = Str.ofString "kept" then some (.ref kl) else if y = Str.ofString "world" then some (.ref x) else if y = Str.ofString "each" then some (.int k tk) else if y = Str.ofString "many" then some (.int j tj) else if y = Str.ofString "first" then some (.int a ta) else if y = Str.ofString "more" then some (.int d td) else u y))
    (N : News h₀ L s.heap [(sl, PySem.W.listOf ss.toArray nt), (kl, PySem.W.listOf ys.toArray nk), (x, instObj 223 dx), (dx, dictOf (⟨PyData.keyHash w.params (Str.ofString "width"), .str (Str.ofString "width") t1, .int 32 t2⟩ :: rest) n), (L + 1 + 1, sc), (L + 1, rc), (I, oI)])
    (hl1 : @LT.lt Nat _ (L + 1) dx) (hl2 : @LT.lt Nat _ (L + 1 + 1) dx) (hl3 : @LT.lt Nat _ dx x) (hlI : @LT.lt Nat _ x I) (hl4 : ((@Ne Nat x kl) ∧ (@Ne Nat dx kl) ∧ (@Ne Nat (L + 1 + 1) kl) ∧ (@Ne Nat (L + 1) kl) ∧ (@Ne Nat I kl))) (hl5 : ((@Ne Nat x sl) ∧ (@Ne Nat dx sl) ∧ (@Ne Nat (L + 1 + 1) sl) ∧ (@Ne Nat (L + 1) sl) ∧ (@Ne Nat I sl))) (hl6 : @Ne Nat kl sl)
    (hQ : ∀ (u' : Str → Option Value) (ss' : List Value) nt' h' tk', IntsAre ss' (psum 0 ks) → Fr h₀ L h' (fun y => if y = Str.ofString "sums" then some (.ref sl) else if y = Str.ofString "kept" then some (.ref kl) else if y = Str.ofString "world" then some (.ref x) else if y = Str.ofString "each" then some (.int k tk) else if y = Str.ofString "many" then some (.int j tj) else if y = Str.ofString "first" then some (.int a ta) else if y = Str.ofString "more" then some (.int d td) else u' y) → News h₀ L h' [(sl, PySem.W.listOf ss'.toArray nt'), (kl, PySem.W.listOf ys.toArray nk), (x, instObj 223 dx), (dx, dictOf (⟨PyData.keyHash w.params (Str.ofString "width"), .str (Str.ofString "width") t1, .int 32 t2⟩ :: rest) n), (L + 1 + 1, sc), (L + 1, rc), (I, oI)] → Q .next { s with heap := h', toks := tk' }) :
    wpAny (model PySem.Challenge.rw_xw0304_01.row.prog w) (callerA.deeper (lawEnv L fa cd)) (exec (tb 2) (lawEnv L fa cd)) Q (fun _ _ => False) s := by
  dsimp only [tb]
  dsimp only [lawEnv, lawScope, scopeOf, st, lawDef, bodyOf, nth, PySem.Challenge.pw_xw0304_01]
  obtain ⟨hl4_0, hl4_1, hl4_2, hl4_3, hl4_4⟩ := hl4
  obtain ⟨hl5_0, hl5_1, hl5_2, hl5_3, hl5_4⟩ := hl5
  (with_unfolding_all refine' For_invVF F ?k1 ?k2 ?_; (case k1 => exact rfl); (case k2 => exact rfl))
  repeat' ((fail_if_success (with_reducible show wpAny _ _ (pyIter (Value.ref _)) _ _ _)); first  | walk1)
  rename IntsAre _ (List.drop 1 ks) => I9
  rename (_ < _ ∧ _) => o9
  rename_i D9 ws9 h9 F9 N9 _ _
  refine' kst_listL (σ := List Value × List Int × Nat) (fun c => [(D9, PySem.W.listOf ws9.toArray 0), (sl, PySem.W.listOf c.1.toArray c.2.2), (kl, PySem.W.listOf ys.toArray nk), (x, instObj 223 dx), (dx, dictOf (⟨PyData.keyHash w.params (Str.ofString "width"), .str (Str.ofString "width") t1, .int 32 t2⟩ :: rest) n), (L + 1 + 1, sc), (L + 1, rc), (I, oI)]) (fun _ => []) (fun c => IntsAre c.1 c.2.1) [] (fun pre c => c.2.1 = psum 0 (ks.take 1 ++ pre) ∧ c.2.1.length = pre.length + 1) (ss, ks.take 1, nt) (by rfl) (fun _ => .head _) I9 F9 N9 hI1 (fun p hp => nomatch hp) ⟨by rw [List.append_nil]; exact psum_one hpos, by dsimp only; rw [List.length_take, List.length_nil]; omega⟩ ?cTurn ?cDone
  case cTurn =>
    rintro ⟨vs, ns, nn⟩ pre post n9 t u' h tk' own heq hmem hoff hIc ⟨hP, hL⟩ F' N'
    dsimp only at hIc hP hL N'
    dsimp only [envOfC] at F' N'
    simp only [List.cons_append, List.nil_append] at N'
    simp only [List.map] at hoff
    have hMk := kstMark
    have hks := take_next heq hpos
    have hlast : ns.getD (-1 + (ns.length : Int)).toNat 0 = (ks.take 1 ++ pre).sum := by
      have q : (ks.take 1 ++ pre).length = pre.length + 1 := by rw [← psum_length _ 0, ← hP, hL]
      rw [last_at hL, hP, psum_last' q]
    have hn : 0 ≤ n9 ∧ n9 ≤ 1000000 := hB n9 (by rw [hks]; exact List.mem_append_right _ (.head _))
    have hs : 0 ≤ (ks.take 1 ++ pre).sum ∧ (ks.take 1 ++ pre).sum ≤ ((ks.take 1 ++ pre).length : Int) * 1000000 := sum_bound fun v hv => hB v (by rw [hks]; exact List.mem_append_left _ hv)
    have hl : (ks.take 1 ++ pre).length ≤ 16 := by
      have := congrArg List.length hks
      rw [List.length_append] at this
      omega
    repeat' ((fail_if_success (with_reducible show InvPostN _ _ _ _ _ _ _ _ _)); first | ((with_reducible show wpAny _ _ (call (Value.ref 205) [_, Value.str (Str.ofString "+") _, _, _]) _ _ _); k_dflt (refine' bv_use (bv_add _ _ _ _ _ _ ?b1 ?b2) ?k1 ?k2 ?k3 ?k4 ?k5 ?kK ?m1 ?m2 ?kd ?ku ?_; (case k1 => k_asm); (case k2 => k_asm); (case k3 => k_asm); (case k4 => k_asm); (case k5 => k_asm); (case kK => first | exact rfl | assumption); (case m1 => k_mem); (case m2 => k_mem); (case kd => ktr_room); (case ku => ktr_units); (case b1 => omega); (case b2 => omega); k_whole; intro t' h' tk' F' N')) | walk1)
    rename Fr _ _ _ _ => F8
    rename News _ _ _ _ => N8
    simp only [List.push_toArray] at N8
    refine kst_end (vs ++ [_], ns ++ [_], nn + 1) F8 N8 (fun p hp => List.mem_append_left own hp) (fun p hp => .tail _ (.tail _ (.tail _ (.tail _ (.tail _ (.tail _ (.tail _ (.tail _ hp)))))))) rfl (IntsAre.append hIc (.cons _ _ .nil)) (fun p hp => nomatch hp) (fun z hz _ _ => (if_neg hz).trans rfl) ⟨?_, ?_⟩
    · dsimp only
      rw [hlast, ← List.append_assoc, psum_snoc, hP, Int.zero_add]
    · dsimp only
      rw [List.length_append, List.length_append, hL]
      rfl
  case cDone =>
    rintro ⟨vs, ns, nn⟩ u' h tk' hIc ⟨hP, hL⟩ F' N'
    dsimp only at hIc hP hL N' F'
    rw [List.take_append_drop] at hP
    subst hP
    exact hQ _ vs nn h tk' hIc (fr_norm3 F' rfl rfl rfl rfl rfl rfl rfl) (cb_drop N' fun p hp => .tail _ hp)
end B1

section B2
theorem fr_norm4 {h₀ h : Heap} {L x bl sl kl : Addr} {m : Str → Option Value} {k j a d : Int} {tk tj ta td : Tok} (F : Fr h₀ L h m) (h0 : m (Str.ofString "backs") = some (.ref bl)) (h1 : m (Str.ofString "sums") = some (.ref sl)) (h2 : m (Str.ofString "kept") = some (.ref kl)) (h3 : m (Str.ofString "world") = some (.ref x)) (h4 : m (Str.ofString "each") = some (.int k tk)) (h5 : m (Str.ofString "many") = some (.int j tj)) (h6 : m (Str.ofString "first") = some (.int a ta)) (h7 : m (Str.ofString "more") = some (.int d td)) :
    Fr h₀ L h (fun y => if y = Str.ofString "backs" then some (.ref bl) else if y = Str.ofString "sums" then some (.ref sl) else if y = Str.ofString "kept" then some (.ref kl) else if y = Str.ofString "world" then some (.ref x) else if y = Str.ofString "each" then some (.int k tk) else if y = Str.ofString "many" then some (.int j tj) else if y = Str.ofString "first" then some (.int a ta) else if y = Str.ofString "more" then some (.int d td) else m y) := by
  have e : (fun y => if y = Str.ofString "backs" then some (.ref bl) else if y = Str.ofString "sums" then some (.ref sl) else if y = Str.ofString "kept" then some (.ref kl) else if y = Str.ofString "world" then some (.ref x) else if y = Str.ofString "each" then some (.int k tk) else if y = Str.ofString "many" then some (.int j tj) else if y = Str.ofString "first" then some (.int a ta) else if y = Str.ofString "more" then some (.int d td) else m y) = m := by
    funext y
    by_cases q0 : y = Str.ofString "backs"
    · rw [if_pos q0, q0]; exact h0.symm
    rw [if_neg q0]
    by_cases q1 : y = Str.ofString "sums"
    · rw [if_pos q1, q1]; exact h1.symm
    rw [if_neg q1]
    by_cases q2 : y = Str.ofString "kept"
    · rw [if_pos q2, q2]; exact h2.symm
    rw [if_neg q2]
    by_cases q3 : y = Str.ofString "world"
    · rw [if_pos q3, q3]; exact h3.symm
    rw [if_neg q3]
    by_cases q4 : y = Str.ofString "each"
    · rw [if_pos q4, q4]; exact h4.symm
    rw [if_neg q4]
    by_cases q5 : y = Str.ofString "many"
    · rw [if_pos q5, q5]; exact h5.symm
    rw [if_neg q5]
    by_cases q6 : y = Str.ofString "first"
    · rw [if_pos q6, q6]; exact h6.symm
    rw [if_neg q6]
    by_cases q7 : y = Str.ofString "more"
    · rw [if_pos q7, q7]; exact h7.symm
    rw [if_neg q7]
  rw [e]
  exact F

theorem getD_bound {ks : List Int} {M : Int} (hB : ∀ v ∈ ks, 0 ≤ v ∧ v ≤ M) (i : Nat) (h : i < ks.length) : 0 ≤ ks.getD i 0 ∧ ks.getD i 0 ≤ M := by
  have e : ks.getD i 0 = ks[i] := by rw [List.getD_eq_getElem?_getD, List.getElem?_eq_getElem h]; rfl
  rw [e]
  exact hB _ (List.getElem_mem h)
theorem take_more (ks : List Int) (i : Nat) (h : i < ks.length) : ks.take i ++ [ks.getD i 0] = ks.take (i + 1) := by
  rw [List.take_add_one, List.getD_eq_getElem?_getD, List.getElem?_eq_getElem h]; rfl

set_option maxRecDepth 100000 in
set_option maxHeartbeats 8000000 in
theorem tb3 {w : World} {mean : ExcName → Option Value} {mg mb : Str → Option Value} {L fa : Addr} {cd : Value} {base h₀ : Heap} {s : Shared} {Q : Flow → Shared → Prop}
    {a d k j : Int} {ta td tk tj t1 t2 : Tok} {x dx : Addr} {rest : List DictEntry} {n : Nat} {rc sc : Obj} {u : Str → Option Value} {I : Addr} {oI : Obj} {kl sl : Addr} {nk nt : Nat} {ys ss : List Value} {ks : List Int}
    (hlen : ks.length ≤ 16) (hpos : 1 ≤ ks.length) (hI1 : IntsAre ss (psum 0 ks))
    (B : Below callerA base [] h₀) (X : (hd.heap_39 w.params).In h₀) (T : Top hd.view_39 (looseW hd.view_39 [Str.ofString "SnobolError"]) mean mg mb h₀)
    (F : Fr h₀ L s.heap (fun y => if y = Str.ofString "sums" then some (.ref sl) else if y = Str.ofString "kept" then some (.ref kl) else if y = Str.ofString "world" then some (.ref x) else if y = Str.ofString "each" then some (.int k tk) else if y = Str.ofString "many" then some (.int j tj) else if y = Str.ofString "first" then some (.int a ta) else if y = Str.ofString "more" then some (.int d td) else u y))
    (N : News h₀ L s.heap [(sl, PySem.W.listOf ss.toArray nt), (kl, PySem.W.listOf ys.toArray nk), (x, instObj 223 dx), (dx, dictOf (⟨PyData.keyHash w.params (Str.ofString "width"), .str (Str.ofString "width") t1, .int 32 t2⟩ :: rest) n), (L + 1 + 1, sc), (L + 1, rc), (I, oI)])
    (hl1 : @LT.lt Nat _ (L + 1) dx) (hl2 : @LT.lt Nat _ (L + 1 + 1) dx) (hl3 : @LT.lt Nat _ dx x) (hlI : @LT.lt Nat _ x I) (hl4 : ((@Ne Nat x kl) ∧ (@Ne Nat dx kl) ∧ (@Ne Nat (L + 1 + 1) kl) ∧ (@Ne Nat (L + 1) kl) ∧ (@Ne Nat I kl))) (hl5 : ((@Ne Nat x sl) ∧ (@Ne Nat dx sl) ∧ (@Ne Nat (L + 1 + 1) sl) ∧ (@Ne Nat (L + 1) sl) ∧ (@Ne Nat I sl))) (hl6 : @Ne Nat kl sl)
    (hQ : ∀ (bl : Addr) (bs : List Value) h' tk', IntsAre bs (ks.take 1) → ((@Ne Nat x bl) ∧ (@Ne Nat dx bl) ∧ (@Ne Nat (L + 1 + 1) bl) ∧ (@Ne Nat (L + 1) bl) ∧ (@Ne Nat I bl)) → @Ne Nat kl bl → @Ne Nat sl bl → Fr h₀ L h' (fun y => if y = Str.ofString "backs" then some (.ref bl) else if y = Str.ofString "sums" then some (.ref sl) else if y = Str.ofString "kept" then some (.ref kl) else if y = Str.ofString "world" then some (.ref x) else if y = Str.ofString "each" then some (.int k tk) else if y = Str.ofString "many" then some (.int j tj) else if y = Str.ofString "first" then some (.int a ta) else if y = Str.ofString "more" then some (.int d td) else u y) → News h₀ L h' [(bl, PySem.W.listOf bs.toArray 0), (sl, PySem.W.listOf ss.toArray nt), (kl, PySem.W.listOf ys.toArray nk), (x, instObj 223 dx), (dx, dictOf (⟨PyData.keyHash w.params (Str.ofString "width"), .str (Str.ofString "width") t1, .int 32 t2⟩ :: rest) n), (L + 1 + 1, sc), (L + 1, rc), (I, oI)] → Q .next { s with heap := h', toks := tk' }) :
    wpAny (model PySem.Challenge.rw_xw0304_01.row.prog w) (callerA.deeper (lawEnv L fa cd)) (exec (tb 3) (lawEnv L fa cd)) Q (fun _ _ => False) s := by
  dsimp only [tb]
  dsimp only [lawEnv, lawScope, scopeOf, st, lawDef, bodyOf, nth, PySem.Challenge.pw_xw0304_01]
  have hpl := psum_length ks 0
  k_steps
  rename Fr _ _ _ _ => F9
  rename News _ _ _ _ => N9
  rename IntsAre _ (List.take 1 (psum 0 ks)) => I9
  rename (_ < _ ∧ _) => o9
  rw [psum_take1] at I9
  exact hQ _ _ _ _ I9 (by refine ⟨?_, ?_, ?_, ?_, ?_⟩ <;> refine neN ?_ <;> omega) (by refine neN ?_; omega) (by refine neN ?_; omega) F9 N9

set_option maxRecDepth 100000 in
set_option maxHeartbeats 8000000 in
theorem tb4 {w : World} {mean : ExcName → Option Value} {mg mb : Str → Option Value} {L fa : Addr} {cd : Value} {base h₀ : Heap} {s : Shared} {Q : Flow → Shared → Prop}
    {a d k j : Int} {ta td tk tj t1 t2 : Tok} {x dx : Addr} {rest : List DictEntry} {n : Nat} {rc sc : Obj} {u : Str → Option Value} {I : Addr} {oI : Obj} {kl sl bl : Addr} {nk nt nb : Nat} {ys ss bs : List Value} {ks : List Int}
    (hlen : ks.length ≤ 16) (hpos : 1 ≤ ks.length) (hB : ∀ v ∈ ks, 0 ≤ v ∧ v ≤ 1000000) (hI1 : IntsAre ss (psum 0 ks)) (hI2 : IntsAre bs (ks.take 1))
    (B : Below callerA base [] h₀) (X : (hd.heap_39 w.params).In h₀) (T : Top hd.view_39 (looseW hd.view_39 [Str.ofString "SnobolError"]) mean mg mb h₀)
    (F : Fr h₀ L s.heap (fun y => if y = Str.ofString "backs" then some (.ref bl) else if y = Str.ofString "sums" then some (.ref sl) else if y = Str.ofString "kept" then some (.ref kl) else if y = Str.ofString "world" then some (.ref x) else if y = Str.ofString "each" then some (.int k tk) else if y = Str.ofString "many" then some (.int j tj) else if y = Str.ofString "first" then some (.int a ta) else if y = Str.ofString "more" then some (.int d td) else u y))
    (N : News h₀ L s.heap [(bl, PySem.W.listOf bs.toArray nb), (sl, PySem.W.listOf ss.toArray nt), (kl, PySem.W.listOf ys.toArray nk), (x, instObj 223 dx), (dx, dictOf (⟨PyData.keyHash w.params (Str.ofString "width"), .str (Str.ofString "width") t1, .int 32 t2⟩ :: rest) n), (L + 1 + 1, sc), (L + 1, rc), (I, oI)])
    (hl1 : @LT.lt Nat _ (L + 1) dx) (hl2 : @LT.lt Nat _ (L + 1 + 1) dx) (hl3 : @LT.lt Nat _ dx x) (hlI : @LT.lt Nat _ x I) (hl4 : ((@Ne Nat x kl) ∧ (@Ne Nat dx kl) ∧ (@Ne Nat (L + 1 + 1) kl) ∧ (@Ne Nat (L + 1) kl) ∧ (@Ne Nat I kl))) (hl5 : ((@Ne Nat x sl) ∧ (@Ne Nat dx sl) ∧ (@Ne Nat (L + 1 + 1) sl) ∧ (@Ne Nat (L + 1) sl) ∧ (@Ne Nat I sl))) (hl6 : @Ne Nat kl sl) (hl7 : ((@Ne Nat x bl) ∧ (@Ne Nat dx bl) ∧ (@Ne Nat (L + 1 + 1) bl) ∧ (@Ne Nat (L + 1) bl) ∧ (@Ne Nat I bl))) (hl8 : @Ne Nat kl bl) (hl9 : @Ne Nat sl bl)
    (hQ : ∀ (u' : Str → Option Value) (bs' : List Value) nb' h' tk', IntsAre bs' ks → Fr h₀ L h' (fun y => if y = Str.ofString "backs" then some (.ref bl) else if y = Str.ofString "sums" then some (.ref sl) else if y = Str.ofString "kept" then some (.ref kl) else if y = Str.ofString "world" then some (.ref x) else if y = Str.ofString "each" then some (.int k tk) else if y = Str.ofString "many" then some (.int j tj) else if y = Str.ofString "first" then some (.int a ta) else if y = Str.ofString "more" then some (.int d td) else u' y) → News h₀ L h' [(bl, PySem.W.listOf bs'.toArray nb'), (sl, PySem.W.listOf ss.toArray nt), (kl, PySem.W.listOf ys.toArray nk), (x, instObj 223 dx), (dx, dictOf (⟨PyData.keyHash w.params (Str.ofString "width"), .str (Str.ofString "width") t1, .int 32 t2⟩ :: rest) n), (L + 1 + 1, sc), (L + 1, rc), (I, oI)] → Q .next { s with heap := h', toks := tk' }) :
    wpAny (model PySem.Challenge.rw_xw0304_01.row.prog w) (callerA.deeper (lawEnv L fa cd)) (exec (tb 4) (lawEnv L fa cd)) Q (fun _ _ => False) s := by
  dsimp only [tb]
  dsimp only [lawEnv, lawScope, scopeOf, st, lawDef, bodyOf, nth, PySem.Challenge.pw_xw0304_01]
  obtain ⟨hl4_0, hl4_1, hl4_2, hl4_3, hl4_4⟩ := hl4
  obtain ⟨hl5_0, hl5_1, hl5_2, hl5_3, hl5_4⟩ := hl5
  obtain ⟨hl7_0, hl7_1, hl7_2, hl7_3, hl7_4⟩ := hl7
  have hpl := psum_length ks 0
  (with_unfolding_all refine' For_invVF F ?k1 ?k2 ?_; (case k1 => exact rfl); (case k2 => exact rfl))
  repeat' ((fail_if_success (with_reducible show wpAny _ _ (pyIter (Value.ref _)) _ _ _)); first  | walk1)
  refine' kst_range (σ := List Value × List Int × Nat) (fun c => [(bl, PySem.W.listOf c.1.toArray c.2.2), (sl, PySem.W.listOf ss.toArray nt), (kl, PySem.W.listOf ys.toArray nk), (x, instObj 223 dx), (dx, dictOf (⟨PyData.keyHash w.params (Str.ofString "width"), .str (Str.ofString "width") t1, .int 32 t2⟩ :: rest) n), (L + 1 + 1, sc), (L + 1, rc), (I, oI)]) (fun _ => []) (fun c => IntsAre c.1 c.2.1) [] (fun pre c => c.2.1 = ks.take (pre.length + 1) ∧ c.2.1.length = pre.length + 1) (bs, ks.take 1, nb) (n := (((psum 0 ks).length : Int) - 1).toNat) (by rfl) (by assumption) (range_small (by omega) (by omega)) (rangeSize_nat _ _) (by assumption) ?cNews ?cInts ?cKeys ?cStart ?cTurn ?cDone
  case cNews => with_unfolding_all assumption
  case cInts => exact hI2
  case cKeys => exact fun p hp => nomatch hp
  case cStart => exact ⟨rfl, by dsimp only; rw [List.length_take, List.length_nil]; omega⟩
  case cTurn =>
    rintro ⟨vs, ns, nn⟩ pre kk t u' h tk' own hkk hlt hoff hIc ⟨hP, hL⟩ F' N'
    dsimp only at hIc hP hL N'
    dsimp only [envOfC] at F' N'
    simp only [List.cons_append, List.nil_append] at N'
    simp only [List.map] at hoff
    have hMk := kstMark
    have hk1 : kk.toNat = pre.length + 1 := by omega
    have hk2 : (kk - 1).toNat = pre.length := by omega
    have hdiff : (psum 0 ks).getD kk.toNat 0 - (psum 0 ks).getD (kk - 1).toNat 0 = ks.getD (pre.length + 1) 0 := by
      rw [hk1, hk2]
      exact psum_diff ks 0 pre.length (by omega)
    have hval := getD_bound hB (pre.length + 1) (by omega)
    repeat' ((fail_if_success (with_reducible show InvPostN _ _ _ _ _ _ _ _ _)); first | ((with_reducible show wpAny _ _ (call (Value.ref 205) [_, Value.str (Str.ofString "-") _, _, _]) _ _ _); k_dflt (refine' bv_use (bv_sub _ _ _ _ _ _ ?b1 ?b2) ?k1 ?k2 ?k3 ?k4 ?k5 ?kK ?m1 ?m2 ?kd ?ku ?_; (case k1 => k_asm); (case k2 => k_asm); (case k3 => k_asm); (case k4 => k_asm); (case k5 => k_asm); (case kK => first | exact rfl | assumption); (case m1 => k_mem); (case m2 => k_mem); (case kd => ktr_room); (case ku => ktr_units); (case b1 => omega); (case b2 => omega); k_whole; intro t' h' tk' F' N')) | ((with_reducible show wpAny _ _ (subscriptTail _ _ (Value.ref _) (Value.int _ _)) _ _ _); k_dflt (refine' item_led ?k1 ?k2 ?k3 ?k4 ?k5 ?k6 ?_ ?k7; (case k1 => k_asm); (case k2 => k_mem); (case k3 => with_reducible assumption); (case k7 => with_unfolding_all rfl); (case k4 => omega); (case k5 => omega); (case k6 => omega)); intro t') | walk1)
    rename Fr _ _ _ _ => F8
    rename News _ _ _ _ => N8
    simp only [List.push_toArray] at N8
    refine kst_end (vs ++ [_], ns ++ [_], nn + 1) F8 N8 (fun p hp => List.mem_append_left own hp) (fun p hp => .tail _ (.tail _ (.tail _ (.tail _ (.tail _ (.tail _ (.tail _ (.tail _ hp)))))))) rfl (IntsAre.append hIc (.cons _ _ .nil)) (fun p hp => nomatch hp) (fun z hz _ _ => (if_neg hz).trans rfl) ⟨?_, ?_⟩
    · dsimp only
      rw [hdiff, List.length_append, hP]
      exact take_more ks (pre.length + 1) (by omega)
    · dsimp only
      rw [List.length_append, List.length_append, hL]
      rfl
  case cDone =>
    rintro ⟨vs, ns, nn⟩ u' h tk' hIc ⟨hP, hL⟩ F' N'
    dsimp only at hIc hP hL N' F'
    rw [rangeKs_length, List.take_of_length_le (by omega)] at hP
    subst hP
    exact hQ _ vs nn h tk' hIc (fr_norm4 F' rfl rfl rfl rfl rfl rfl rfl rfl) N'
end B2

section B3
set_option maxRecDepth 100000 in
set_option maxHeartbeats 8000000 in
theorem tb5 {w : World} {mean : ExcName → Option Value} {mg mb : Str → Option Value} {L fa : Addr} {cd : Value} {base h₀ : Heap} {s : Shared} {Q : Flow → Shared → Prop}
    {a d k j : Int} {ta td tk tj t1 t2 : Tok} {x dx : Addr} {rest : List DictEntry} {n : Nat} {rc sc : Obj} {u : Str → Option Value} {I : Addr} {oI : Obj} {kl sl bl : Addr} {nk nt nb : Nat} {ys ss bs : List Value} {ks : List Int} {g : Int} {tg : Tok}
    (hlen : ks.length ≤ 16) (hpos : 1 ≤ ks.length) (hg : 2 ≤ g ∧ g ≤ 4) (hj : 2 ≤ j ∧ j ≤ 4) (hkl : (ks.length : Int) = j * (g - 1)) (hI0 : IntsAre ys ks) (hI2 : IntsAre bs ks) (hsc : sc.data = .cell (some (.int g tg)))
    (B : Below callerA base [] h₀) (X : (hd.heap_39 w.params).In h₀) (T : Top hd.view_39 (looseW hd.view_39 [Str.ofString "SnobolError"]) mean mg mb h₀)
    (F : Fr h₀ L s.heap (fun y => if y = Str.ofString "backs" then some (.ref bl) else if y = Str.ofString "sums" then some (.ref sl) else if y = Str.ofString "kept" then some (.ref kl) else if y = Str.ofString "world" then some (.ref x) else if y = Str.ofString "each" then some (.int k tk) else if y = Str.ofString "many" then some (.int j tj) else if y = Str.ofString "first" then some (.int a ta) else if y = Str.ofString "more" then some (.int d td) else u y))
    (N : News h₀ L s.heap [(bl, PySem.W.listOf bs.toArray nb), (sl, PySem.W.listOf ss.toArray nt), (kl, PySem.W.listOf ys.toArray nk), (x, instObj 223 dx), (dx, dictOf (⟨PyData.keyHash w.params (Str.ofString "width"), .str (Str.ofString "width") t1, .int 32 t2⟩ :: rest) n), (L + 1 + 1, sc), (L + 1, rc), (I, oI)])
    (hl1 : @LT.lt Nat _ (L + 1) dx) (hl2 : @LT.lt Nat _ (L + 1 + 1) dx) (hl3 : @LT.lt Nat _ dx x) (hlI : @LT.lt Nat _ x I) (hl4 : ((@Ne Nat x kl) ∧ (@Ne Nat dx kl) ∧ (@Ne Nat (L + 1 + 1) kl) ∧ (@Ne Nat (L + 1) kl) ∧ (@Ne Nat I kl))) (hl5 : ((@Ne Nat x sl) ∧ (@Ne Nat dx sl) ∧ (@Ne Nat (L + 1 + 1) sl) ∧ (@Ne Nat (L + 1) sl) ∧ (@Ne Nat I sl))) (hl6 : @Ne Nat kl sl) (hl7 : ((@Ne Nat x bl) ∧ (@Ne Nat dx bl) ∧ (@Ne Nat (L + 1 + 1) bl) ∧ (@Ne Nat (L + 1) bl) ∧ (@Ne Nat I bl))) (hl8 : @Ne Nat kl bl) (hl9 : @Ne Nat sl bl)
    (hQ : ∀ h' tk', Fr h₀ L h' (fun y => if y = Str.ofString "backs" then some (.ref bl) else if y = Str.ofString "sums" then some (.ref sl) else if y = Str.ofString "kept" then some (.ref kl) else if y = Str.ofString "world" then some (.ref x) else if y = Str.ofString "each" then some (.int k tk) else if y = Str.ofString "many" then some (.int j tj) else if y = Str.ofString "first" then some (.int a ta) else if y = Str.ofString "more" then some (.int d td) else u y) → News h₀ L h' [(bl, PySem.W.listOf bs.toArray nb), (sl, PySem.W.listOf ss.toArray nt), (kl, PySem.W.listOf ys.toArray nk), (x, instObj 223 dx), (dx, dictOf (⟨PyData.keyHash w.params (Str.ofString "width"), .str (Str.ofString "width") t1, .int 32 t2⟩ :: rest) n), (L + 1 + 1, sc), (L + 1, rc), (I, oI)] → Q .next { s with heap := h', toks := tk' }) :
    wpAny (model PySem.Challenge.rw_xw0304_01.row.prog w) (callerA.deeper (lawEnv L fa cd)) (exec (tb 5) (lawEnv L fa cd)) Q (fun _ _ => False) s := by
  dsimp only [tb]
  dsimp only [lawEnv, lawScope, scopeOf, st, lawDef, bodyOf, nth, PySem.Challenge.pw_xw0304_01]
  k_steps
  · exact absurd hkl (by assumption)
  · exact hQ _ _ (by assumption) (by assumption)

set_option maxRecDepth 100000 in
set_option maxHeartbeats 8000000 in
theorem tb6 {w : World} {mean : ExcName → Option Value} {mg mb : Str → Option Value} {L fa : Addr} {cd : Value} {base h₀ : Heap} {s : Shared} {Q : Flow → Shared → Prop}
    {a d k j : Int} {ta td tk tj t1 t2 : Tok} {x dx : Addr} {rest : List DictEntry} {n : Nat} {rc sc : Obj} {u : Str → Option Value} {I : Addr} {oI : Obj} {kl sl bl : Addr} {nk nt nb : Nat} {ys ss bs : List Value} {rv : Option Value}
    (hrc : rc.data = .cell rv)
    (B : Below callerA base [] h₀) (X : (hd.heap_39 w.params).In h₀) (T : Top hd.view_39 (looseW hd.view_39 [Str.ofString "SnobolError"]) mean mg mb h₀)
    (F : Fr h₀ L s.heap (fun y => if y = Str.ofString "backs" then some (.ref bl) else if y = Str.ofString "sums" then some (.ref sl) else if y = Str.ofString "kept" then some (.ref kl) else if y = Str.ofString "world" then some (.ref x) else if y = Str.ofString "each" then some (.int k tk) else if y = Str.ofString "many" then some (.int j tj) else if y = Str.ofString "first" then some (.int a ta) else if y = Str.ofString "more" then some (.int d td) else u y))
    (N : News h₀ L s.heap [(bl, PySem.W.listOf bs.toArray nb), (sl, PySem.W.listOf ss.toArray nt), (kl, PySem.W.listOf ys.toArray nk), (x, instObj 223 dx), (dx, dictOf (⟨PyData.keyHash w.params (Str.ofString "width"), .str (Str.ofString "width") t1, .int 32 t2⟩ :: rest) n), (L + 1 + 1, sc), (L + 1, rc), (I, oI)])
    (hl1 : @LT.lt Nat _ (L + 1) dx) (hl2 : @LT.lt Nat _ (L + 1 + 1) dx) (hl3 : @LT.lt Nat _ dx x) (hlI : @LT.lt Nat _ x I) (hl4 : ((@Ne Nat x kl) ∧ (@Ne Nat dx kl) ∧ (@Ne Nat (L + 1 + 1) kl) ∧ (@Ne Nat (L + 1) kl) ∧ (@Ne Nat I kl))) (hl5 : ((@Ne Nat x sl) ∧ (@Ne Nat dx sl) ∧ (@Ne Nat (L + 1 + 1) sl) ∧ (@Ne Nat (L + 1) sl) ∧ (@Ne Nat I sl))) (hl6 : @Ne Nat kl sl) (hl7 : ((@Ne Nat x bl) ∧ (@Ne Nat dx bl) ∧ (@Ne Nat (L + 1 + 1) bl) ∧ (@Ne Nat (L + 1) bl) ∧ (@Ne Nat I bl))) (hl8 : @Ne Nat kl bl) (hl9 : @Ne Nat sl bl)
    (hQ : ∀ (u' : Str → Option Value) (rc' : Obj) h' tk', rc'.data = .cell (some (.ref sl)) → Fr h₀ L h' (fun y => if y = Str.ofString "world" then some (.ref x) else if y = Str.ofString "each" then some (.int k tk) else if y = Str.ofString "many" then some (.int j tj) else if y = Str.ofString "first" then some (.int a ta) else if y = Str.ofString "more" then some (.int d td) else u' y) → News h₀ L h' [(sl, PySem.W.listOf ss.toArray nt), (x, instObj 223 dx), (dx, dictOf (⟨PyData.keyHash w.params (Str.ofString "width"), .str (Str.ofString "width") t1, .int 32 t2⟩ :: rest) n), (L + 1 + 1, sc), (L + 1, rc'), (I, oI)] → Q .next { s with heap := h', toks := tk' }) :
    wpAny (model PySem.Challenge.rw_xw0304_01.row.prog w) (callerA.deeper (lawEnv L fa cd)) (exec (tb 6) (lawEnv L fa cd)) Q (fun _ _ => False) s := by
  dsimp only [tb]
  dsimp only [lawEnv, lawScope, scopeOf, st, lawDef, bodyOf, nth, PySem.Challenge.pw_xw0304_01]
  obtain ⟨hl4_0, hl4_1, hl4_2, hl4_3, hl4_4⟩ := hl4
  obtain ⟨hl5_0, hl5_1, hl5_2, hl5_3, hl5_4⟩ := hl5
  obtain ⟨hl7_0, hl7_1, hl7_2, hl7_3, hl7_4⟩ := hl7
  k_steps
  rename Fr _ _ _ _ => F9
  rename News _ _ _ _ => N9
  rename (_ = Data.cell (some (Value.ref sl))) => d9
  exact hQ _ _ _ _ d9 (fr_norm F9 rfl rfl rfl rfl rfl) (cb_drop N9 fun p hp => (List.mem_cons.mp hp).elim (fun e => e ▸ .tail _ (.head _)) fun h => .tail _ (.tail _ (.tail _ h)))
end B3

section C1
theorem body6 : bodyOf (st 6) = [tb 0, tb 1, tb 2, tb 3, tb 4, tb 5, tb 6] := rfl

set_option maxRecDepth 100000 in
set_option maxHeartbeats 8000000 in
theorem tturn {w : World} {mean : ExcName → Option Value} {mg mb : Str → Option Value} {L fa : Addr} {cd : Value} {base h₀ : Heap} {s : Shared} {Q : Flow → Shared → Prop}
    {a d k j : Int} {ta td tk tj t1 t2 : Tok} {x dx : Addr} {rest : List DictEntry} {n : Nat} {rc sc : Obj} {u : Str → Option Value} {I : Addr} {oI : Obj} {rl : Addr} {n' : Nat} {vs : List Value} {ns : List Int} {g : Int} {tg : Tok}
    (hg : 2 ≤ g ∧ g ≤ 4) (hj : 2 ≤ j ∧ j ≤ 4) (hlen : ns.length ≤ 16) (hI : IntsAre vs ns) (hkl : ((strike g ns).length : Int) = j * (g - 1)) (hB : ∀ v ∈ strike g ns, 0 ≤ v ∧ v ≤ 1000000)
    (B : Below callerA base [] h₀) (X : (hd.heap_39 w.params).In h₀) (T : Top hd.view_39 (looseW hd.view_39 [Str.ofString "SnobolError"]) mean mg mb h₀)
    (F : Fr h₀ L s.heap (fun y => if y = Str.ofString "world" then some (.ref x) else if y = Str.ofString "each" then some (.int k tk) else if y = Str.ofString "many" then some (.int j tj) else if y = Str.ofString "first" then some (.int a ta) else if y = Str.ofString "more" then some (.int d td) else u y))
    (N : News h₀ L s.heap [(rl, PySem.W.listOf vs.toArray n'), (x, instObj 223 dx), (dx, dictOf (⟨PyData.keyHash w.params (Str.ofString "width"), .str (Str.ofString "width") t1, .int 32 t2⟩ :: rest) n), (L + 1 + 1, sc), (L + 1, rc), (I, oI)])
    (hrc : rc.data = .cell (some (.ref rl))) (hsc : sc.data = .cell (some (.int g tg))) (hl1 : @LT.lt Nat _ (L + 1) dx) (hl2 : @LT.lt Nat _ (L + 1 + 1) dx) (hl3 : @LT.lt Nat _ dx x) (hlI : @LT.lt Nat _ x I) (hl4 : ((@Ne Nat x rl) ∧ (@Ne Nat dx rl) ∧ (@Ne Nat (L + 1 + 1) rl) ∧ (@Ne Nat (L + 1) rl) ∧ (@Ne Nat I rl)))
    (hQ : ∀ (u' : Str → Option Value) (rc' : Obj) (sl : Addr) (ss : List Value) nt h' tk', IntsAre ss (psum 0 (strike g ns)) → rc'.data = .cell (some (.ref sl)) → ((@Ne Nat x sl) ∧ (@Ne Nat dx sl) ∧ (@Ne Nat (L + 1 + 1) sl) ∧ (@Ne Nat (L + 1) sl) ∧ (@Ne Nat I sl)) → Fr h₀ L h' (fun y => if y = Str.ofString "world" then some (.ref x) else if y = Str.ofString "each" then some (.int k tk) else if y = Str.ofString "many" then some (.int j tj) else if y = Str.ofString "first" then some (.int a ta) else if y = Str.ofString "more" then some (.int d td) else u' y) → News h₀ L h' [(sl, PySem.W.listOf ss.toArray nt), (x, instObj 223 dx), (dx, dictOf (⟨PyData.keyHash w.params (Str.ofString "width"), .str (Str.ofString "width") t1, .int 32 t2⟩ :: rest) n), (L + 1 + 1, sc), (L + 1, rc'), (I, oI)] → Q .next { s with heap := h', toks := tk' }) :
    wpAny (model PySem.Challenge.rw_xw0304_01.row.prog w) (callerA.deeper (lawEnv L fa cd)) (execs (bodyOf (st 6)) (lawEnv L fa cd)) Q (fun _ _ => False) s := by
  have hkl' : 2 ≤ j * (g - 1) ∧ j * (g - 1) ≤ 12 := by
    have h1 : (2 : Int) * 1 ≤ j * (g - 1) := Int.mul_le_mul hj.1 (by omega) (by omega) (by omega)
    have h2 : j * (g - 1) ≤ 4 * 3 := Int.mul_le_mul hj.2 (by omega) (by omega) (by omega)
    omega
  have hk16 : (strike g ns).length ≤ 16 := by omega
  have hk1 : 1 ≤ (strike g ns).length := by omega
  rw [body6]
  refine wpAny_execs_cons (tb0 hg hlen hI B X T F N hrc hsc hl1 hl2 hl3 hlI hl4 fun kl ys h tk' I0 o0 F N => ?_)
  refine wpAny_execs_cons (tb1 hk16 hk1 I0 B X T F N hl1 hl2 hl3 hlI o0 fun sl ss h tk' I1 o1 e1 F N => ?_)
  refine wpAny_execs_cons (tb2 hk16 hk1 hB I0 I1 B X T F N hl1 hl2 hl3 hlI o0 o1 e1 fun u' ss nt h tk' I2 F N => ?_)
  refine wpAny_execs_cons (tb3 hk16 hk1 I2 B X T F N hl1 hl2 hl3 hlI o0 o1 e1 fun bl bs h tk' I3 o3 e3 e3' F N => ?_)
  refine wpAny_execs_cons (tb4 hk16 hk1 hB I2 I3 B X T F N hl1 hl2 hl3 hlI o0 o1 e1 o3 e3 e3' fun u' bs nb h tk' I4 F N => ?_)
  refine wpAny_execs_cons (tb5 hk16 hk1 hg hj hkl I0 I4 hsc B X T F N hl1 hl2 hl3 hlI o0 o1 e1 o3 e3 e3' fun h tk' F N => ?_)
  refine wpAny_execs_cons (tb6 hrc B X T F N hl1 hl2 hl3 hlI o0 o1 e1 o3 e3 e3' fun u' rc' h tk' d F N => ?_)
  exact wpAny_execs_nil (hQ _ _ _ _ _ _ _ I2 d o1 F N)
end C1

section C2
section
variable {prog : Program} {w : World} {A : Around} {E : Value → Shared → Prop} {s : Shared} {env : Env} {h₀ : Heap} {x : Str} {px : Pos} {body : List Stmt} {Q : Flow → Shared → Prop}
/-- a for over a range that counts down, its target a plain name, by what holds between the turns: names, cells and lists may all change -/
theorem turnsD {r : Addr} {a₀ b₀ : Int} {t₀ u₀ v₀ : Tok} {n : Nat} {m₀ : Str → Option Value} {news : List (Addr × Obj)} (J : Nat → (Str → Option Value) → List (Addr × Obj) → Prop)
    (hh : A.handled = none) (hr : IsRange s.heap r a₀ b₀ (-1) t₀ u₀ v₀) (hsmall : Builtin.Range.small a₀ b₀ (-1) = true) (hn : Builtin.Range.rangeSize a₀ b₀ (-1) = (n : Int)) (F : Fr h₀ env.locals s.heap m₀) (N : News h₀ env.locals s.heap news) (j0 : J 0 m₀ news)
    (turn : ∀ i t I oI m₁ news₁ h₁ tk₁, i < n → J i m₁ news₁ → (∀ p ∈ news, p.1 < I) → (∀ p ∈ news₁, p.1 ≠ I) → Fr h₀ env.locals h₁ m₁ → News h₀ env.locals h₁ ((I, oI) :: news₁) →
      wpAny (model prog w) A (assign (.Name x px) env (.int (a₀ - (i : Int)) t)) (fun _ s₃ => wpAny (model prog w) A (execs body env)
        (fun f s₄ => f = .next ∧ ∃ h' tk m₂ news₂, s₄ = { s with heap := h', toks := tk } ∧ Fr h₀ env.locals h' m₂ ∧ News h₀ env.locals h' ((I, oI) :: news₂) ∧ (∀ p ∈ news₂, p.1 ≠ I) ∧ J (i + 1) m₂ news₂) E s₃) E { s with heap := h₁, toks := tk₁ })
    (done : ∀ m₁ news₁ h tk, J n m₁ news₁ → Fr h₀ env.locals h m₁ → News h₀ env.locals h news₁ → Q .next { s with heap := h, toks := tk }) :
    wpAny (model prog w) A (pyIter (.ref r)) (fun it s₂ => TurnsAt prog w A h₀ env (.Name x px) body Q E it s₂) E s := by
  refine wpAny_pyIter_range hr hsmall ?_
  have W : Walks prog w A s.heap.objs.size [s.heap.objs.size] [s.heap.objs.size] n (fun i v => i < n ∧ ∃ t, v = .int (a₀ + i * (-1)) t)
      (fun i h => IsRangeIter h s.heap.objs.size (a₀ + (i : Nat) * (-1)) ((n : Int) - (i : Nat)) (-1)) := (Walks.range hh _ a₀ (-1) n).bound
  have low : ∀ p ∈ news, p.1 < s.heap.objs.size := fun p hp => Heap.lt_size (N p hp).1
  refine ⟨s.heap.objs.size, [s.heap.objs.size], [s.heap.objs.size], n, _, _, _, m₀, news, J, rfl, KTurns.ofWalks W (fun _ _ _ _ _ _ h => wpAny_pure h), ?_, ?_, ?_, (by show IsRangeIter _ _ _ _ _; rw [hn]; simpa using Heap.get?_push_size _ rfl), F.push _, (fun p hp => ⟨Heap.get?_push_of_some _ (N p hp).1, (N p hp).2⟩), j0, ?_, ?_⟩
  · intro hm
    exact absurd F.ns.lt ((List.mem_singleton.mp hm) ▸ Nat.lt_irrefl _)
  · intro b hb
    rw [List.mem_singleton.mp hb]
    exact next_is_new F
  · intro p hp hI
    exact absurd (low p hp) ((List.mem_singleton.mp hI) ▸ Nat.lt_irrefl _)
  · rintro i v m₁ news₁ h₁ tk₁ own hi ⟨_, t, rfl⟩ hJ hoff hsub hget hall hst F₁ N₁
    have e1 : a₀ + (i : Int) * (-1) = a₀ - (i : Int) := by omega
    rw [e1]
    obtain ⟨oI, hoI⟩ : ∃ o, h₁.get? s.heap.objs.size = some o := ⟨_, hst⟩
    have hin : (s.heap.objs.size, oI) ∈ own := hall s.heap.objs.size (.head _) (next_is_new F) oI hoI
    have hI₀ := N₁ _ (List.mem_append_left _ hin)
    refine wpAny_mono (turn i t s.heap.objs.size oI m₁ news₁ h₁ tk₁ hi hJ low (fun p hp e => hoff p hp (e ▸ .head _)) F₁ fun p hp => ?_) (fun _ s₃ h₃ => wpAny_mono h₃ (fun f s₄ h₄ => ?_) fun _ _ e => e) fun _ _ e => e
    · rcases List.mem_cons.mp hp with rfl | hp
      · exact hI₀
      · exact N₁ p (List.mem_append_right _ hp)
    · obtain ⟨rfl, h', tk, m₂, news₂, rfl, F₂, N₂, ho₂, hJ₂⟩ := h₄
      refine LoopStepV.next ⟨rfl, h', tk, m₂, news₂, rfl, F₂, fun p hp => ?_, fun p hp hI => ho₂ p hp (List.mem_singleton.mp hI), hJ₂⟩
      rcases List.mem_append.mp hp with hp | hp
      · have hpI : p.1 = s.heap.objs.size := List.mem_singleton.mp (hsub p hp)
        have hp2 := hget p hp
        have hp3 := hget _ hin
        rw [hpI] at hp2
        rw [hp2] at hp3
        have : p = (s.heap.objs.size, oI) := Prod.ext hpI (Option.some.inj hp3)
        rw [this]
        exact N₂ _ (.head _)
      · exact N₂ p (.tail _ hp)
  · rintro h' tk m' news' F' N' _ hJ
    exact done m' news' h' tk hJ F' N'
end
end C2

section C3
theorem rotB {α : Type} {p a : α} {l : List α} (h : p ∈ l ++ [a]) : p ∈ a :: l := (List.mem_append.mp h).elim (fun h => .tail _ h) fun h => (List.mem_singleton.mp h) ▸ .head _
theorem rotA {α : Type} {p a : α} {l : List α} (h : p ∈ a :: l) : p ∈ l ++ [a] := (List.mem_cons.mp h).elim (fun h => h ▸ List.mem_append_right _ (.head _)) fun h => List.mem_append_left _ h
/-- the row behind so many stages -/
def rowAt (a d k j : Int) : Nat → List Int
  | 0 => addRow a d (k * j - 1).toNat
  | i + 1 => psum 0 (strike (k - (i : Int)) (rowAt a d k j i))

set_option maxRecDepth 100000 in
set_option maxHeartbeats 8000000 in
theorem s6 {w : World} {mean : ExcName → Option Value} {mg mb : Str → Option Value} {L fa : Addr} {cd : Value} {base h₀ : Heap} {s : Shared} {Q : Flow → Shared → Prop}
    {a d k j : Int} {ta td tk tj t1 t2 : Tok} {x dx : Addr} {rest : List DictEntry} {n : Nat} {rc sc : Obj} {u : Str → Option Value} {rl : Addr} {n' : Nat} {vs : List Value} {v₀ : Option Value}
    (hk : 2 ≤ k ∧ k ≤ 4) (hj : 2 ≤ j ∧ j ≤ 4)
    (hR : ∀ i : Nat, i < (k - 1).toNat → (rowAt a d k j i).length ≤ 16 ∧ ((strike (k - (i : Int)) (rowAt a d k j i)).length : Int) = j * (k - (i : Int) - 1) ∧ ∀ v ∈ strike (k - (i : Int)) (rowAt a d k j i), 0 ≤ v ∧ v ≤ 1000000)
    (B : Below callerA base [] h₀) (X : (hd.heap_39 w.params).In h₀) (T : Top hd.view_39 (looseW hd.view_39 [Str.ofString "SnobolError"]) mean mg mb h₀)
    (F : Fr h₀ L s.heap (fun y => if y = Str.ofString "world" then some (.ref x) else if y = Str.ofString "each" then some (.int k tk) else if y = Str.ofString "many" then some (.int j tj) else if y = Str.ofString "first" then some (.int a ta) else if y = Str.ofString "more" then some (.int d td) else u y))
    (N : News h₀ L s.heap [(rl, PySem.W.listOf vs.toArray n'), (x, instObj 223 dx), (dx, dictOf (⟨PyData.keyHash w.params (Str.ofString "width"), .str (Str.ofString "width") t1, .int 32 t2⟩ :: rest) n), (L + 1 + 1, sc), (L + 1, rc)])
    (hI : IntsAre vs (addRow a d (k * j - 1).toNat)) (hrc : rc.data = .cell (some (.ref rl))) (hsc : sc.data = .cell v₀) (hl1 : @LT.lt Nat _ (L + 1) dx) (hl2 : @LT.lt Nat _ (L + 1 + 1) dx) (hl3 : @LT.lt Nat _ dx x) (hl4 : ((@Ne Nat x rl) ∧ (@Ne Nat dx rl) ∧ (@Ne Nat (L + 1 + 1) rl) ∧ (@Ne Nat (L + 1) rl)))
    (hQ : ∀ (u' : Str → Option Value) (rc' sc' : Obj) (rl' : Addr) (vs : List Value) (nr : Nat) h' tk', IntsAre vs (rowAt a d k j (k - 1).toNat) → rc'.data = .cell (some (.ref rl')) → ((@Ne Nat x rl') ∧ (@Ne Nat dx rl') ∧ (@Ne Nat (L + 1 + 1) rl') ∧ (@Ne Nat (L + 1) rl')) → Fr h₀ L h' (fun y => if y = Str.ofString "world" then some (.ref x) else if y = Str.ofString "each" then some (.int k tk) else if y = Str.ofString "many" then some (.int j tj) else if y = Str.ofString "first" then some (.int a ta) else if y = Str.ofString "more" then some (.int d td) else u' y) → News h₀ L h' [(rl', PySem.W.listOf vs.toArray nr), (x, instObj 223 dx), (dx, dictOf (⟨PyData.keyHash w.params (Str.ofString "width"), .str (Str.ofString "width") t1, .int 32 t2⟩ :: rest) n), (L + 1 + 1, sc'), (L + 1, rc')] → Q .next { s with heap := h', toks := tk' }) :
    wpAny (model PySem.Challenge.rw_xw0304_01.row.prog w) (callerA.deeper (lawEnv L fa cd)) (exec (st 6) (lawEnv L fa cd)) Q (fun _ _ => False) s := by
  dsimp only [lawEnv, lawScope, scopeOf, st, lawDef, bodyOf, nth, PySem.Challenge.pw_xw0304_01]
  (with_unfolding_all refine' For_turns F ?_)
  repeat' ((fail_if_success (with_reducible show wpAny _ _ (pyIter (Value.ref _)) _ _ _)); first  | walk1)
  refine' turnsD (n := (k - 1).toNat) (fun (i : Nat) (m : Str → Option Value) (news : List (Addr × Obj)) => ∃ (u' : Str → Option Value) (rc' sc' : Obj) (rl' : Addr) (vs : List Value) (nr : Nat) (v : Option Value), m = (fun y => if y = Str.ofString "world" then some (.ref x) else if y = Str.ofString "each" then some (.int k tk) else if y = Str.ofString "many" then some (.int j tj) else if y = Str.ofString "first" then some (.int a ta) else if y = Str.ofString "more" then some (.int d td) else u' y) ∧ news = [(rl', PySem.W.listOf vs.toArray nr), (x, instObj 223 dx), (dx, dictOf (⟨PyData.keyHash w.params (Str.ofString "width"), .str (Str.ofString "width") t1, .int 32 t2⟩ :: rest) n), (L + 1 + 1, sc'), (L + 1, rc')] ∧ IntsAre vs (rowAt a d k j i) ∧ rc'.data = .cell (some (.ref rl')) ∧ sc'.data = .cell v ∧ ((@Ne Nat x rl') ∧ (@Ne Nat dx rl') ∧ (@Ne Nat (L + 1 + 1) rl') ∧ (@Ne Nat (L + 1) rl'))) (by rfl) (by assumption) (small_down (by omega) (by omega) (by omega) (by omega)) (rangeSize_downNat _ _) (by assumption) (by with_unfolding_all assumption) ⟨u, rc, sc, rl, vs, n', v₀, rfl, rfl, hI, hrc, hsc, hl4⟩ ?cTurn ?cDone
  case cTurn =>
    rintro i t I oI m₁ news₁ h₁ tk₁ hi ⟨u', rc', sc', rl', vs', nr, v, rfl, rfl, hI', hrc', hsc', ho'⟩ hlow hoff F₁ N₁
    obtain ⟨f1, f2, f3⟩ := hR i hi
    have hxI : @LT.lt Nat _ x I := hlow _ (.tail _ (.head _))
    have hrI : @Ne Nat rl' I := hoff _ (.head _)
    clear hlow hoff
    dsimp only [envOfC] at F₁ N₁
    repeat' ((fail_if_success (with_reducible show wpAny _ _ (execs _ _) _ _ _)); first  | walk1)
    rename Fr _ _ _ _ => F9
    rename News _ _ _ _ => N9
    rename (_ = Data.cell (some (Value.int _ _))) => d9
    have N8 : News h₀ L _ [(rl', PySem.W.listOf vs'.toArray nr), (x, instObj 223 dx), (dx, dictOf (⟨PyData.keyHash w.params (Str.ofString "width"), .str (Str.ofString "width") t1, .int 32 t2⟩ :: rest) n), (L + 1 + 1, _), (L + 1, rc'), (I, oI)] := cb_drop N9 fun p hp => rotB (l := [(rl', PySem.W.listOf vs'.toArray nr), (x, instObj 223 dx), (dx, dictOf (⟨PyData.keyHash w.params (Str.ofString "width"), .str (Str.ofString "width") t1, .int 32 t2⟩ :: rest) n), (L + 1 + 1, _), (L + 1, rc')]) hp
    exact tturn (by omega) hj f1 hI' f2 f3 B X T F9 N8 hrc' d9 hl1 hl2 hl3 hxI (by omega) fun u'' rc'' sl ss nt h' tk' I9 d8 o8 F7 N7 => ⟨rfl, h', tk', _, _, rfl, F7, cb_drop N7 fun p hp => rotA (l := [(sl, PySem.W.listOf ss.toArray nt), (x, instObj 223 dx), (dx, dictOf (⟨PyData.keyHash w.params (Str.ofString "width"), .str (Str.ofString "width") t1, .int 32 t2⟩ :: rest) n), (L + 1 + 1, _), (L + 1, rc'')]) hp, (by intro p hp; simp only [List.mem_cons, List.not_mem_nil, or_false] at hp; rcases hp with rfl | rfl | rfl | rfl | rfl <;> refine neN ?_ <;> dsimp only <;> omega), u'', rc'', _, sl, ss, nt, _, rfl, rfl, I9, d8, d9, ⟨o8.1, o8.2.1, o8.2.2.1, o8.2.2.2.1⟩⟩
  case cDone =>
    rintro m₁ news₁ h tk' ⟨u', rc', sc', rl', vs', nr, v, rfl, rfl, hI', hrc', hsc', ho'⟩ F₁ N₁
    exact hQ u' rc' sc' rl' vs' nr h tk' hI' hrc' ho' F₁ N₁
end C3

section C4
theorem fr_norm2 {h₀ h : Heap} {L x ul : Addr} {m : Str → Option Value} {k j a d : Int} {tk tj ta td : Tok} (F : Fr h₀ L h m) (h0 : m (Str.ofString "due") = some (.ref ul)) (h1 : m (Str.ofString "world") = some (.ref x)) (h2 : m (Str.ofString "each") = some (.int k tk)) (h3 : m (Str.ofString "many") = some (.int j tj)) (h4 : m (Str.ofString "first") = some (.int a ta)) (h5 : m (Str.ofString "more") = some (.int d td)) :
    Fr h₀ L h (fun y => if y = Str.ofString "due" then some (.ref ul) else if y = Str.ofString "world" then some (.ref x) else if y = Str.ofString "each" then some (.int k tk) else if y = Str.ofString "many" then some (.int j tj) else if y = Str.ofString "first" then some (.int a ta) else if y = Str.ofString "more" then some (.int d td) else m y) := by
  have e : (fun y => if y = Str.ofString "due" then some (.ref ul) else if y = Str.ofString "world" then some (.ref x) else if y = Str.ofString "each" then some (.int k tk) else if y = Str.ofString "many" then some (.int j tj) else if y = Str.ofString "first" then some (.int a ta) else if y = Str.ofString "more" then some (.int d td) else m y) = m := by
    funext y
    by_cases q0 : y = Str.ofString "due"
    · rw [if_pos q0, q0]; exact h0.symm
    rw [if_neg q0]
    by_cases q1 : y = Str.ofString "world"
    · rw [if_pos q1, q1]; exact h1.symm
    rw [if_neg q1]
    by_cases q2 : y = Str.ofString "each"
    · rw [if_pos q2, q2]; exact h2.symm
    rw [if_neg q2]
    by_cases q3 : y = Str.ofString "many"
    · rw [if_pos q3, q3]; exact h3.symm
    rw [if_neg q3]
    by_cases q4 : y = Str.ofString "first"
    · rw [if_pos q4, q4]; exact h4.symm
    rw [if_neg q4]
    by_cases q5 : y = Str.ofString "more"
    · rw [if_pos q5, q5]; exact h5.symm
    rw [if_neg q5]
  rw [e]
  exact F

/-- what is due: of each turn its power by its term -/
def dueAt (a d k : Int) (pre : List Int) : List Int := pre.map fun t => t ^ (k - 1).toNat * (a + (t - 1) * d)

theorem pow_bound {t k : Int} (h1 : 1 ≤ t) (h2 : t ≤ 4) (h3 : 2 ≤ k) (h4 : k ≤ 4) : 1 ≤ t ^ (k - 1).toNat ∧ t ^ (k - 1).toNat ≤ 64 := by
  have ht : t = 1 ∨ t = 2 ∨ t = 3 ∨ t = 4 := by omega
  have hk : (k - 1).toNat = 1 ∨ (k - 1).toNat = 2 ∨ (k - 1).toNat = 3 := by omega
  rcases ht with rfl | rfl | rfl | rfl <;> rcases hk with q | q | q <;> rw [q] <;> decide


set_option maxRecDepth 100000 in
set_option maxHeartbeats 8000000 in
theorem s7 {w : World} {mean : ExcName → Option Value} {mg mb : Str → Option Value} {L fa : Addr} {cd : Value} {base h₀ : Heap} {s : Shared} {Q : Flow → Shared → Prop}
    {a d k j : Int} {ta td tk tj t1 t2 : Tok} {x dx : Addr} {rest : List DictEntry} {n : Nat} {rc sc : Obj} {u : Str → Option Value} {rl : Addr} {n' : Nat} {vs : List Value}
    (B : Below callerA base [] h₀) (X : (hd.heap_39 w.params).In h₀) (T : Top hd.view_39 (looseW hd.view_39 [Str.ofString "SnobolError"]) mean mg mb h₀)
    (F : Fr h₀ L s.heap (fun y => if y = Str.ofString "world" then some (.ref x) else if y = Str.ofString "each" then some (.int k tk) else if y = Str.ofString "many" then some (.int j tj) else if y = Str.ofString "first" then some (.int a ta) else if y = Str.ofString "more" then some (.int d td) else u y))
    (N : News h₀ L s.heap [(rl, PySem.W.listOf vs.toArray n'), (x, instObj 223 dx), (dx, dictOf (⟨PyData.keyHash w.params (Str.ofString "width"), .str (Str.ofString "width") t1, .int 32 t2⟩ :: rest) n), (L + 1 + 1, sc), (L + 1, rc)]) (hl1 : @LT.lt Nat _ (L + 1) dx) (hl2 : @LT.lt Nat _ (L + 1 + 1) dx) (hl3 : @LT.lt Nat _ dx x) (hl4 : ((@Ne Nat x rl) ∧ (@Ne Nat dx rl) ∧ (@Ne Nat (L + 1 + 1) rl) ∧ (@Ne Nat (L + 1) rl)))
    (hQ : ∀ (ul : Addr) h' tk', ((@Ne Nat x ul) ∧ (@Ne Nat dx ul) ∧ (@Ne Nat (L + 1 + 1) ul) ∧ (@Ne Nat (L + 1) ul)) → @Ne Nat rl ul → Fr h₀ L h' (fun y => if y = Str.ofString "due" then some (.ref ul) else if y = Str.ofString "world" then some (.ref x) else if y = Str.ofString "each" then some (.int k tk) else if y = Str.ofString "many" then some (.int j tj) else if y = Str.ofString "first" then some (.int a ta) else if y = Str.ofString "more" then some (.int d td) else u y) → News h₀ L h' [(ul, PySem.W.listOf #[] 0), (rl, PySem.W.listOf vs.toArray n'), (x, instObj 223 dx), (dx, dictOf (⟨PyData.keyHash w.params (Str.ofString "width"), .str (Str.ofString "width") t1, .int 32 t2⟩ :: rest) n), (L + 1 + 1, sc), (L + 1, rc)] → Q .next { s with heap := h', toks := tk' }) :
    wpAny (model PySem.Challenge.rw_xw0304_01.row.prog w) (callerA.deeper (lawEnv L fa cd)) (exec (st 7) (lawEnv L fa cd)) Q (fun _ _ => False) s := by
  dsimp only [lawEnv, lawScope, scopeOf, st, lawDef, bodyOf, nth, PySem.Challenge.pw_xw0304_01]
  k_steps
  rename Fr _ _ _ _ => F9
  rename News _ _ _ _ => N9
  rename (_ < _ ∧ _) => o9
  exact hQ _ _ _ (by refine ⟨?_, ?_, ?_, ?_⟩ <;> refine neN ?_ <;> omega) (by refine neN ?_; omega) F9 N9

set_option maxRecDepth 100000 in
set_option maxHeartbeats 8000000 in
theorem s8 {w : World} {mean : ExcName → Option Value} {mg mb : Str → Option Value} {L fa : Addr} {cd : Value} {base h₀ : Heap} {s : Shared} {Q : Flow → Shared → Prop}
    {a d k j : Int} {ta td tk tj t1 t2 : Tok} {x dx : Addr} {rest : List DictEntry} {n : Nat} {rc sc : Obj} {u : Str → Option Value} {rl ul : Addr} {n' : Nat} {vs : List Value}
    (ha : 0 ≤ a ∧ a ≤ 9) (hd' : 0 ≤ d ∧ d ≤ 9) (hk : 2 ≤ k ∧ k ≤ 4) (hj : 2 ≤ j ∧ j ≤ 4)
    (B : Below callerA base [] h₀) (X : (hd.heap_39 w.params).In h₀) (T : Top hd.view_39 (looseW hd.view_39 [Str.ofString "SnobolError"]) mean mg mb h₀)
    (F : Fr h₀ L s.heap (fun y => if y = Str.ofString "due" then some (.ref ul) else if y = Str.ofString "world" then some (.ref x) else if y = Str.ofString "each" then some (.int k tk) else if y = Str.ofString "many" then some (.int j tj) else if y = Str.ofString "first" then some (.int a ta) else if y = Str.ofString "more" then some (.int d td) else u y))
    (N : News h₀ L s.heap [(ul, PySem.W.listOf #[] 0), (rl, PySem.W.listOf vs.toArray n'), (x, instObj 223 dx), (dx, dictOf (⟨PyData.keyHash w.params (Str.ofString "width"), .str (Str.ofString "width") t1, .int 32 t2⟩ :: rest) n), (L + 1 + 1, sc), (L + 1, rc)]) (hl1 : @LT.lt Nat _ (L + 1) dx) (hl2 : @LT.lt Nat _ (L + 1 + 1) dx) (hl3 : @LT.lt Nat _ dx x) (hl4 : ((@Ne Nat x rl) ∧ (@Ne Nat dx rl) ∧ (@Ne Nat (L + 1 + 1) rl) ∧ (@Ne Nat (L + 1) rl))) (hl5 : ((@Ne Nat x ul) ∧ (@Ne Nat dx ul) ∧ (@Ne Nat (L + 1 + 1) ul) ∧ (@Ne Nat (L + 1) ul))) (hl6 : @Ne Nat rl ul)
    (hQ : ∀ (u' : Str → Option Value) (us : List Value) nu h' tk', IntsAre us (dueAt a d k (rangeKs 1 j.toNat)) → Fr h₀ L h' (fun y => if y = Str.ofString "due" then some (.ref ul) else if y = Str.ofString "world" then some (.ref x) else if y = Str.ofString "each" then some (.int k tk) else if y = Str.ofString "many" then some (.int j tj) else if y = Str.ofString "first" then some (.int a ta) else if y = Str.ofString "more" then some (.int d td) else u' y) → News h₀ L h' [(ul, PySem.W.listOf us.toArray nu), (rl, PySem.W.listOf vs.toArray n'), (x, instObj 223 dx), (dx, dictOf (⟨PyData.keyHash w.params (Str.ofString "width"), .str (Str.ofString "width") t1, .int 32 t2⟩ :: rest) n), (L + 1 + 1, sc), (L + 1, rc)] → Q .next { s with heap := h', toks := tk' }) :
    wpAny (model PySem.Challenge.rw_xw0304_01.row.prog w) (callerA.deeper (lawEnv L fa cd)) (exec (st 8) (lawEnv L fa cd)) Q (fun _ _ => False) s := by
  dsimp only [lawEnv, lawScope, scopeOf, st, lawDef, bodyOf, nth, PySem.Challenge.pw_xw0304_01]
  obtain ⟨hl4_0, hl4_1, hl4_2, hl4_3⟩ := hl4
  obtain ⟨hl5_0, hl5_1, hl5_2, hl5_3⟩ := hl5
  have hjH : ∀ _ : Unit, 2 ≤ j ∧ j ≤ 4 := fun _ => hj
  clear hj
  (with_unfolding_all refine' For_invVF F ?k1 ?k2 ?_; (case k1 => exact rfl); (case k2 => exact rfl))
  repeat' ((fail_if_success (with_reducible show wpAny _ _ (pyIter (Value.ref _)) _ _ _)); first  | walk1)
  have hj := hjH ()
  have hjn : (j + 1 - 1).toNat = j.toNat := by omega
  refine' kst_range (σ := List Value × List Int × Nat) (fun c => [(ul, PySem.W.listOf c.1.toArray c.2.2), (rl, PySem.W.listOf vs.toArray n'), (x, instObj 223 dx), (dx, dictOf (⟨PyData.keyHash w.params (Str.ofString "width"), .str (Str.ofString "width") t1, .int 32 t2⟩ :: rest) n), (L + 1 + 1, sc), (L + 1, rc)]) (fun _ => []) (fun c => IntsAre c.1 c.2.1) [Str.ofString "number"] (fun pre c => c.2.1 = dueAt a d k pre) ([], [], 0) (n := (j + 1 - 1).toNat) (by rfl) (by assumption) (range_small (by omega) (by omega)) (rangeSize_nat _ _) (by assumption) ?cNews ?cInts ?cKeys ?cStart ?cTurn ?cDone
  case cNews => with_unfolding_all assumption
  case cInts => exact .nil
  case cKeys => exact fun p hp => nomatch hp
  case cStart => rfl
  case cTurn =>
    rintro ⟨us, ns, nn⟩ pre kk t u' h tk' own hkk hlt hoff hIc hP F' N'
    dsimp only at hIc hP N'
    dsimp only [envOfC] at F' N'
    simp only [List.cons_append, List.nil_append] at N'
    simp only [List.map] at hoff
    have hMk := kstMark
    have hq : 1 ≤ kk ∧ kk ≤ 4 := by omega
    have hL : ns.length = pre.length := by rw [hP]; simp [dueAt]
    have hm : 0 ≤ (kk - 1) * d ∧ (kk - 1) * d ≤ 3 * 9 := ⟨Int.mul_nonneg (by omega) hd'.1, Int.mul_le_mul (by omega) hd'.2 hd'.1 (by omega)⟩
    have hp := pow_bound hq.1 hq.2 hk.1 hk.2
    have hr : 0 ≤ kk ^ (k - 1).toNat * (a + (kk - 1) * d) ∧ kk ^ (k - 1).toNat * (a + (kk - 1) * d) ≤ 64 * 36 := ⟨Int.mul_nonneg (by omega) (by omega), Int.mul_le_mul hp.2 (by omega) (by omega) (by omega)⟩
    repeat' ((fail_if_success (with_reducible show InvPostN _ _ _ _ _ _ _ _ _)); first | ((with_reducible show wpAny _ _ (call (Value.ref 205) [_, Value.str (Str.ofString "+") _, _, _]) _ _ _); k_dflt (refine' bv_use (bv_add _ _ _ _ _ _ ?b1 ?b2) ?k1 ?k2 ?k3 ?k4 ?k5 ?kK ?m1 ?m2 ?kd ?ku ?_; (case k1 => k_asm); (case k2 => k_asm); (case k3 => k_asm); (case k4 => k_asm); (case k5 => k_asm); (case kK => first | exact rfl | assumption); (case m1 => k_mem); (case m2 => k_mem); (case kd => ktr_room); (case ku => ktr_units); (case b1 => omega); (case b2 => omega); k_whole; intro t' h' tk' F' N')) | ((with_reducible show wpAny _ _ (call (Value.ref 205) [_, Value.str (Str.ofString "*") _, _, _]) _ _ _); k_dflt (refine' bv_use (bv_mul _ _ _ _ _ _ ?b1 ?b2 ?b3 ?b4) ?k1 ?k2 ?k3 ?k4 ?k5 ?kK ?m1 ?m2 ?kd ?ku ?_; (case k1 => k_asm); (case k2 => k_asm); (case k3 => k_asm); (case k4 => k_asm); (case k5 => k_asm); (case kK => first | exact rfl | assumption); (case m1 => k_mem); (case m2 => k_mem); (case kd => ktr_room); (case ku => ktr_units); (case b1 => omega); (case b2 => omega); (case b3 => omega); (case b4 => omega); k_whole; intro t' h' tk' F' N')) | ((with_reducible show wpAny _ _ (call (Value.ref 205) [_, Value.str (Str.ofString "**") _, _, _]) _ _ _); k_dflt (refine' bv_use (bv_pow _ _ _ _ _ _ ?b1 ?b2 ?b3 ?b4) ?k1 ?k2 ?k3 ?k4 ?k5 ?kK ?m1 ?m2 ?kd ?ku ?_; (case k1 => k_asm); (case k2 => k_asm); (case k3 => k_asm); (case k4 => k_asm); (case k5 => k_asm); (case kK => first | exact rfl | assumption); (case m1 => k_mem); (case m2 => k_mem); (case kd => ktr_room); (case ku => ktr_units); (case b1 => omega); (case b2 => omega); (case b3 => omega); (case b4 => omega); k_whole; intro t' h' tk' F' N')) | walk1)
    rename Fr _ _ _ _ => F8
    rename News _ _ _ _ => N8
    simp only [List.push_toArray] at N8
    refine kst_end (us ++ [_], ns ++ [_], nn + 1) F8 N8 (fun p hp => List.mem_append_left own hp) (fun p hp => .tail _ (.tail _ (.tail _ (.tail _ (.tail _ (.tail _ hp)))))) rfl (IntsAre.append hIc (.cons _ _ .nil)) (fun p hp => nomatch hp) ?_ ?_
    · intro z hz _ hs
      have hzn : z ≠ Str.ofString "number" := by
        intro e
        rw [e, List.contains_cons, beq_self_eq_true] at hs
        cases hs
      rw [if_neg hzn, if_neg hz]
      show (if [Str.ofString "number"].contains z = true then _ else _) = _
      rw [if_neg (by rw [hs]; decide)]
    · dsimp only
      rw [hP]
      unfold dueAt
      rw [List.map_append]
      rfl
  case cDone =>
    rintro ⟨us, ns, nn⟩ u' h tk' hIc hP F' N'
    dsimp only at hIc hP N' F'
    rw [hjn] at hP
    subst hP
    exact hQ _ us nn h tk' hIc (fr_norm2 F' rfl rfl rfl rfl rfl rfl) N'

set_option maxRecDepth 100000 in
set_option maxHeartbeats 8000000 in
theorem s9 {w : World} {mean : ExcName → Option Value} {mg mb : Str → Option Value} {L fa : Addr} {cd : Value} {base h₀ : Heap} {s : Shared} {Q : Flow → Shared → Prop}
    {a d k j : Int} {ta td tk tj t1 t2 : Tok} {x dx : Addr} {rest : List DictEntry} {n : Nat} {rc sc : Obj} {u : Str → Option Value} {rl ul : Addr} {n' nu : Nat} {vs us : List Value} {rs : List Int}
    (hI : IntsAre vs rs) (hI2 : IntsAre us rs) (hlen : rs.length ≤ 16)
    (B : Below callerA base [] h₀) (X : (hd.heap_39 w.params).In h₀) (T : Top hd.view_39 (looseW hd.view_39 [Str.ofString "SnobolError"]) mean mg mb h₀)
    (F : Fr h₀ L s.heap (fun y => if y = Str.ofString "due" then some (.ref ul) else if y = Str.ofString "world" then some (.ref x) else if y = Str.ofString "each" then some (.int k tk) else if y = Str.ofString "many" then some (.int j tj) else if y = Str.ofString "first" then some (.int a ta) else if y = Str.ofString "more" then some (.int d td) else u y))
    (N : News h₀ L s.heap [(ul, PySem.W.listOf us.toArray nu), (rl, PySem.W.listOf vs.toArray n'), (x, instObj 223 dx), (dx, dictOf (⟨PyData.keyHash w.params (Str.ofString "width"), .str (Str.ofString "width") t1, .int 32 t2⟩ :: rest) n), (L + 1 + 1, sc), (L + 1, rc)]) (hrc : rc.data = .cell (some (.ref rl))) (hl1 : @LT.lt Nat _ (L + 1) dx) (hl2 : @LT.lt Nat _ (L + 1 + 1) dx) (hl3 : @LT.lt Nat _ dx x) (hl4 : ((@Ne Nat x rl) ∧ (@Ne Nat dx rl) ∧ (@Ne Nat (L + 1 + 1) rl) ∧ (@Ne Nat (L + 1) rl))) (hl5 : ((@Ne Nat x ul) ∧ (@Ne Nat dx ul) ∧ (@Ne Nat (L + 1 + 1) ul) ∧ (@Ne Nat (L + 1) ul))) (hl6 : @Ne Nat rl ul)
    (hQ : ∀ (m' : Str → Option Value) (nw : List (Addr × Obj)) h' tk', Fr h₀ L h' m' → News h₀ L h' nw → Q (.ret (.bool true)) { s with heap := h', toks := tk' }) :
    wpAny (model PySem.Challenge.rw_xw0304_01.row.prog w) (callerA.deeper (lawEnv L fa cd)) (exec (st 9) (lawEnv L fa cd)) Q (fun _ _ => False) s := by
  dsimp only [lawEnv, lawScope, scopeOf, st, lawDef, bodyOf, nth, PySem.Challenge.pw_xw0304_01]
  k_steps
  exact hQ _ _ s.heap s.toks (by assumption) (by assumption)
end C4

section PL
theorem strike_2_2 (x0 x1 x2 x3 : Int) : strike 2 [x0, x1, x2, x3] = [x0, x2] := by with_unfolding_all rfl
theorem strike_2_3 (x0 x1 x2 x3 x4 x5 : Int) : strike 2 [x0, x1, x2, x3, x4, x5] = [x0, x2, x4] := by with_unfolding_all rfl
theorem strike_2_4 (x0 x1 x2 x3 x4 x5 x6 x7 : Int) : strike 2 [x0, x1, x2, x3, x4, x5, x6, x7] = [x0, x2, x4, x6] := by with_unfolding_all rfl
theorem strike_3_2 (x0 x1 x2 x3 x4 x5 : Int) : strike 3 [x0, x1, x2, x3, x4, x5] = [x0, x1, x3, x4] := by with_unfolding_all rfl
theorem strike_3_3 (x0 x1 x2 x3 x4 x5 x6 x7 x8 : Int) : strike 3 [x0, x1, x2, x3, x4, x5, x6, x7, x8] = [x0, x1, x3, x4, x6, x7] := by with_unfolding_all rfl
theorem strike_3_4 (x0 x1 x2 x3 x4 x5 x6 x7 x8 x9 x10 x11 : Int) : strike 3 [x0, x1, x2, x3, x4, x5, x6, x7, x8, x9, x10, x11] = [x0, x1, x3, x4, x6, x7, x9, x10] := by with_unfolding_all rfl
theorem strike_4_2 (x0 x1 x2 x3 x4 x5 x6 x7 : Int) : strike 4 [x0, x1, x2, x3, x4, x5, x6, x7] = [x0, x1, x2, x4, x5, x6] := by with_unfolding_all rfl
theorem strike_4_3 (x0 x1 x2 x3 x4 x5 x6 x7 x8 x9 x10 x11 : Int) : strike 4 [x0, x1, x2, x3, x4, x5, x6, x7, x8, x9, x10, x11] = [x0, x1, x2, x4, x5, x6, x8, x9, x10] := by with_unfolding_all rfl
theorem strike_4_4 (x0 x1 x2 x3 x4 x5 x6 x7 x8 x9 x10 x11 x12 x13 x14 x15 : Int) : strike 4 [x0, x1, x2, x3, x4, x5, x6, x7, x8, x9, x10, x11, x12, x13, x14, x15] = [x0, x1, x2, x4, x5, x6, x8, x9, x10, x12, x13, x14] := by with_unfolding_all rfl

theorem row_2_2_0 (a d : Int) : rowAt a d 2 2 0 = [1 * a + 0 * d, 1 * a + 1 * d, 1 * a + 2 * d, 1 * a + 3 * d] := by
  show [a + ((0 : Nat) : Int) * d, a + ((1 : Nat) : Int) * d, a + ((2 : Nat) : Int) * d, a + ((3 : Nat) : Int) * d] = _
  simp only [List.cons.injEq, and_true]
  (repeat' apply And.intro) <;> omega
theorem kept_2_2_0 (a d : Int) : strike (2 - ((0 : Nat) : Int)) (rowAt a d 2 2 0) = [1 * a + 0 * d, 1 * a + 2 * d] := by
  rw [row_2_2_0]
  exact strike_2_2 _ _ _ _
theorem row_2_2_1 (a d : Int) : rowAt a d 2 2 1 = [1 * a + 0 * d, 2 * a + 2 * d] := by
  rw [rowAt, kept_2_2_0]
  simp only [psum, List.cons.injEq, and_true]
  (repeat' apply And.intro) <;> omega
theorem row_2_3_0 (a d : Int) : rowAt a d 2 3 0 = [1 * a + 0 * d, 1 * a + 1 * d, 1 * a + 2 * d, 1 * a + 3 * d, 1 * a + 4 * d, 1 * a + 5 * d] := by
  show [a + ((0 : Nat) : Int) * d, a + ((1 : Nat) : Int) * d, a + ((2 : Nat) : Int) * d, a + ((3 : Nat) : Int) * d, a + ((4 : Nat) : Int) * d, a + ((5 : Nat) : Int) * d] = _
  simp only [List.cons.injEq, and_true]
  (repeat' apply And.intro) <;> omega
theorem kept_2_3_0 (a d : Int) : strike (2 - ((0 : Nat) : Int)) (rowAt a d 2 3 0) = [1 * a + 0 * d, 1 * a + 2 * d, 1 * a + 4 * d] := by
  rw [row_2_3_0]
  exact strike_2_3 _ _ _ _ _ _
theorem row_2_3_1 (a d : Int) : rowAt a d 2 3 1 = [1 * a + 0 * d, 2 * a + 2 * d, 3 * a + 6 * d] := by
  rw [rowAt, kept_2_3_0]
  simp only [psum, List.cons.injEq, and_true]
  (repeat' apply And.intro) <;> omega
theorem row_2_4_0 (a d : Int) : rowAt a d 2 4 0 = [1 * a + 0 * d, 1 * a + 1 * d, 1 * a + 2 * d, 1 * a + 3 * d, 1 * a + 4 * d, 1 * a + 5 * d, 1 * a + 6 * d, 1 * a + 7 * d] := by
  show [a + ((0 : Nat) : Int) * d, a + ((1 : Nat) : Int) * d, a + ((2 : Nat) : Int) * d, a + ((3 : Nat) : Int) * d, a + ((4 : Nat) : Int) * d, a + ((5 : Nat) : Int) * d, a + ((6 : Nat) : Int) * d, a + ((7 : Nat) : Int) * d] = _
  simp only [List.cons.injEq, and_true]
  (repeat' apply And.intro) <;> omega
theorem kept_2_4_0 (a d : Int) : strike (2 - ((0 : Nat) : Int)) (rowAt a d 2 4 0) = [1 * a + 0 * d, 1 * a + 2 * d, 1 * a + 4 * d, 1 * a + 6 * d] := by
  rw [row_2_4_0]
  exact strike_2_4 _ _ _ _ _ _ _ _
theorem row_2_4_1 (a d : Int) : rowAt a d 2 4 1 = [1 * a + 0 * d, 2 * a + 2 * d, 3 * a + 6 * d, 4 * a + 12 * d] := by
  rw [rowAt, kept_2_4_0]
  simp only [psum, List.cons.injEq, and_true]
  (repeat' apply And.intro) <;> omega
theorem row_3_2_0 (a d : Int) : rowAt a d 3 2 0 = [1 * a + 0 * d, 1 * a + 1 * d, 1 * a + 2 * d, 1 * a + 3 * d, 1 * a + 4 * d, 1 * a + 5 * d] := by
  show [a + ((0 : Nat) : Int) * d, a + ((1 : Nat) : Int) * d, a + ((2 : Nat) : Int) * d, a + ((3 : Nat) : Int) * d, a + ((4 : Nat) : Int) * d, a + ((5 : Nat) : Int) * d] = _
  simp only [List.cons.injEq, and_true]
  (repeat' apply And.intro) <;> omega
theorem kept_3_2_0 (a d : Int) : strike (3 - ((0 : Nat) : Int)) (rowAt a d 3 2 0) = [1 * a + 0 * d, 1 * a + 1 * d, 1 * a + 3 * d, 1 * a + 4 * d] := by
  rw [row_3_2_0]
  exact strike_3_2 _ _ _ _ _ _
theorem row_3_2_1 (a d : Int) : rowAt a d 3 2 1 = [1 * a + 0 * d, 2 * a + 1 * d, 3 * a + 4 * d, 4 * a + 8 * d] := by
  rw [rowAt, kept_3_2_0]
  simp only [psum, List.cons.injEq, and_true]
  (repeat' apply And.intro) <;> omega
theorem kept_3_2_1 (a d : Int) : strike (3 - ((1 : Nat) : Int)) (rowAt a d 3 2 1) = [1 * a + 0 * d, 3 * a + 4 * d] := by
  rw [row_3_2_1]
  exact strike_2_2 _ _ _ _
theorem row_3_2_2 (a d : Int) : rowAt a d 3 2 2 = [1 * a + 0 * d, 4 * a + 4 * d] := by
  rw [rowAt, kept_3_2_1]
  simp only [psum, List.cons.injEq, and_true]
  (repeat' apply And.intro) <;> omega
theorem row_3_3_0 (a d : Int) : rowAt a d 3 3 0 = [1 * a + 0 * d, 1 * a + 1 * d, 1 * a + 2 * d, 1 * a + 3 * d, 1 * a + 4 * d, 1 * a + 5 * d, 1 * a + 6 * d, 1 * a + 7 * d, 1 * a + 8 * d] := by
  show [a + ((0 : Nat) : Int) * d, a + ((1 : Nat) : Int) * d, a + ((2 : Nat) : Int) * d, a + ((3 : Nat) : Int) * d, a + ((4 : Nat) : Int) * d, a + ((5 : Nat) : Int) * d, a + ((6 : Nat) : Int) * d, a + ((7 : Nat) : Int) * d, a + ((8 : Nat) : Int) * d] = _
  simp only [List.cons.injEq, and_true]
  (repeat' apply And.intro) <;> omega
theorem kept_3_3_0 (a d : Int) : strike (3 - ((0 : Nat) : Int)) (rowAt a d 3 3 0) = [1 * a + 0 * d, 1 * a + 1 * d, 1 * a + 3 * d, 1 * a + 4 * d, 1 * a + 6 * d, 1 * a + 7 * d] := by
  rw [row_3_3_0]
  exact strike_3_3 _ _ _ _ _ _ _ _ _
theorem row_3_3_1 (a d : Int) : rowAt a d 3 3 1 = [1 * a + 0 * d, 2 * a + 1 * d, 3 * a + 4 * d, 4 * a + 8 * d, 5 * a + 14 * d, 6 * a + 21 * d] := by
  rw [rowAt, kept_3_3_0]
  simp only [psum, List.cons.injEq, and_true]
  (repeat' apply And.intro) <;> omega
theorem kept_3_3_1 (a d : Int) : strike (3 - ((1 : Nat) : Int)) (rowAt a d 3 3 1) = [1 * a + 0 * d, 3 * a + 4 * d, 5 * a + 14 * d] := by
  rw [row_3_3_1]
  exact strike_2_3 _ _ _ _ _ _
theorem row_3_3_2 (a d : Int) : rowAt a d 3 3 2 = [1 * a + 0 * d, 4 * a + 4 * d, 9 * a + 18 * d] := by
  rw [rowAt, kept_3_3_1]
  simp only [psum, List.cons.injEq, and_true]
  (repeat' apply And.intro) <;> omega
theorem row_3_4_0 (a d : Int) : rowAt a d 3 4 0 = [1 * a + 0 * d, 1 * a + 1 * d, 1 * a + 2 * d, 1 * a + 3 * d, 1 * a + 4 * d, 1 * a + 5 * d, 1 * a + 6 * d, 1 * a + 7 * d, 1 * a + 8 * d, 1 * a + 9 * d, 1 * a + 10 * d, 1 * a + 11 * d] := by
  show [a + ((0 : Nat) : Int) * d, a + ((1 : Nat) : Int) * d, a + ((2 : Nat) : Int) * d, a + ((3 : Nat) : Int) * d, a + ((4 : Nat) : Int) * d, a + ((5 : Nat) : Int) * d, a + ((6 : Nat) : Int) * d, a + ((7 : Nat) : Int) * d, a + ((8 : Nat) : Int) * d, a + ((9 : Nat) : Int) * d, a + ((10 : Nat) : Int) * d, a + ((11 : Nat) : Int) * d] = _
  simp only [List.cons.injEq, and_true]
  (repeat' apply And.intro) <;> omega
theorem kept_3_4_0 (a d : Int) : strike (3 - ((0 : Nat) : Int)) (rowAt a d 3 4 0) = [1 * a + 0 * d, 1 * a + 1 * d, 1 * a + 3 * d, 1 * a + 4 * d, 1 * a + 6 * d, 1 * a + 7 * d, 1 * a + 9 * d, 1 * a + 10 * d] := by
  rw [row_3_4_0]
  exact strike_3_4 _ _ _ _ _ _ _ _ _ _ _ _
theorem row_3_4_1 (a d : Int) : rowAt a d 3 4 1 = [1 * a + 0 * d, 2 * a + 1 * d, 3 * a + 4 * d, 4 * a + 8 * d, 5 * a + 14 * d, 6 * a + 21 * d, 7 * a + 30 * d, 8 * a + 40 * d] := by
  rw [rowAt, kept_3_4_0]
  simp only [psum, List.cons.injEq, and_true]
  (repeat' apply And.intro) <;> omega
theorem kept_3_4_1 (a d : Int) : strike (3 - ((1 : Nat) : Int)) (rowAt a d 3 4 1) = [1 * a + 0 * d, 3 * a + 4 * d, 5 * a + 14 * d, 7 * a + 30 * d] := by
  rw [row_3_4_1]
  exact strike_2_4 _ _ _ _ _ _ _ _
theorem row_3_4_2 (a d : Int) : rowAt a d 3 4 2 = [1 * a + 0 * d, 4 * a + 4 * d, 9 * a + 18 * d, 16 * a + 48 * d] := by
  rw [rowAt, kept_3_4_1]
  simp only [psum, List.cons.injEq, and_true]
  (repeat' apply And.intro) <;> omega
theorem row_4_2_0 (a d : Int) : rowAt a d 4 2 0 = [1 * a + 0 * d, 1 * a + 1 * d, 1 * a + 2 * d, 1 * a + 3 * d, 1 * a + 4 * d, 1 * a + 5 * d, 1 * a + 6 * d, 1 * a + 7 * d] := by
  show [a + ((0 : Nat) : Int) * d, a + ((1 : Nat) : Int) * d, a + ((2 : Nat) : Int) * d, a + ((3 : Nat) : Int) * d, a + ((4 : Nat) : Int) * d, a + ((5 : Nat) : Int) * d, a + ((6 : Nat) : Int) * d, a + ((7 : Nat) : Int) * d] = _
  simp only [List.cons.injEq, and_true]
  (repeat' apply And.intro) <;> omega
theorem kept_4_2_0 (a d : Int) : strike (4 - ((0 : Nat) : Int)) (rowAt a d 4 2 0) = [1 * a + 0 * d, 1 * a + 1 * d, 1 * a + 2 * d, 1 * a + 4 * d, 1 * a + 5 * d, 1 * a + 6 * d] := by
  rw [row_4_2_0]
  exact strike_4_2 _ _ _ _ _ _ _ _
theorem row_4_2_1 (a d : Int) : rowAt a d 4 2 1 = [1 * a + 0 * d, 2 * a + 1 * d, 3 * a + 3 * d, 4 * a + 7 * d, 5 * a + 12 * d, 6 * a + 18 * d] := by
  rw [rowAt, kept_4_2_0]
  simp only [psum, List.cons.injEq, and_true]
  (repeat' apply And.intro) <;> omega
theorem kept_4_2_1 (a d : Int) : strike (4 - ((1 : Nat) : Int)) (rowAt a d 4 2 1) = [1 * a + 0 * d, 2 * a + 1 * d, 4 * a + 7 * d, 5 * a + 12 * d] := by
  rw [row_4_2_1]
  exact strike_3_2 _ _ _ _ _ _
theorem row_4_2_2 (a d : Int) : rowAt a d 4 2 2 = [1 * a + 0 * d, 3 * a + 1 * d, 7 * a + 8 * d, 12 * a + 20 * d] := by
  rw [rowAt, kept_4_2_1]
  simp only [psum, List.cons.injEq, and_true]
  (repeat' apply And.intro) <;> omega
theorem kept_4_2_2 (a d : Int) : strike (4 - ((2 : Nat) : Int)) (rowAt a d 4 2 2) = [1 * a + 0 * d, 7 * a + 8 * d] := by
  rw [row_4_2_2]
  exact strike_2_2 _ _ _ _
theorem row_4_2_3 (a d : Int) : rowAt a d 4 2 3 = [1 * a + 0 * d, 8 * a + 8 * d] := by
  rw [rowAt, kept_4_2_2]
  simp only [psum, List.cons.injEq, and_true]
  (repeat' apply And.intro) <;> omega
theorem row_4_3_0 (a d : Int) : rowAt a d 4 3 0 = [1 * a + 0 * d, 1 * a + 1 * d, 1 * a + 2 * d, 1 * a + 3 * d, 1 * a + 4 * d, 1 * a + 5 * d, 1 * a + 6 * d, 1 * a + 7 * d, 1 * a + 8 * d, 1 * a + 9 * d, 1 * a + 10 * d, 1 * a + 11 * d] := by
  show [a + ((0 : Nat) : Int) * d, a + ((1 : Nat) : Int) * d, a + ((2 : Nat) : Int) * d, a + ((3 : Nat) : Int) * d, a + ((4 : Nat) : Int) * d, a + ((5 : Nat) : Int) * d, a + ((6 : Nat) : Int) * d, a + ((7 : Nat) : Int) * d, a + ((8 : Nat) : Int) * d, a + ((9 : Nat) : Int) * d, a + ((10 : Nat) : Int) * d, a + ((11 : Nat) : Int) * d] = _
  simp only [List.cons.injEq, and_true]
  (repeat' apply And.intro) <;> omega
theorem kept_4_3_0 (a d : Int) : strike (4 - ((0 : Nat) : Int)) (rowAt a d 4 3 0) = [1 * a + 0 * d, 1 * a + 1 * d, 1 * a + 2 * d, 1 * a + 4 * d, 1 * a + 5 * d, 1 * a + 6 * d, 1 * a + 8 * d, 1 * a + 9 * d, 1 * a + 10 * d] := by
  rw [row_4_3_0]
  exact strike_4_3 _ _ _ _ _ _ _ _ _ _ _ _
theorem row_4_3_1 (a d : Int) : rowAt a d 4 3 1 = [1 * a + 0 * d, 2 * a + 1 * d, 3 * a + 3 * d, 4 * a + 7 * d, 5 * a + 12 * d, 6 * a + 18 * d, 7 * a + 26 * d, 8 * a + 35 * d, 9 * a + 45 * d] := by
  rw [rowAt, kept_4_3_0]
  simp only [psum, List.cons.injEq, and_true]
  (repeat' apply And.intro) <;> omega
theorem kept_4_3_1 (a d : Int) : strike (4 - ((1 : Nat) : Int)) (rowAt a d 4 3 1) = [1 * a + 0 * d, 2 * a + 1 * d, 4 * a + 7 * d, 5 * a + 12 * d, 7 * a + 26 * d, 8 * a + 35 * d] := by
  rw [row_4_3_1]
  exact strike_3_3 _ _ _ _ _ _ _ _ _
theorem row_4_3_2 (a d : Int) : rowAt a d 4 3 2 = [1 * a + 0 * d, 3 * a + 1 * d, 7 * a + 8 * d, 12 * a + 20 * d, 19 * a + 46 * d, 27 * a + 81 * d] := by
  rw [rowAt, kept_4_3_1]
  simp only [psum, List.cons.injEq, and_true]
  (repeat' apply And.intro) <;> omega
theorem kept_4_3_2 (a d : Int) : strike (4 - ((2 : Nat) : Int)) (rowAt a d 4 3 2) = [1 * a + 0 * d, 7 * a + 8 * d, 19 * a + 46 * d] := by
  rw [row_4_3_2]
  exact strike_2_3 _ _ _ _ _ _
theorem row_4_3_3 (a d : Int) : rowAt a d 4 3 3 = [1 * a + 0 * d, 8 * a + 8 * d, 27 * a + 54 * d] := by
  rw [rowAt, kept_4_3_2]
  simp only [psum, List.cons.injEq, and_true]
  (repeat' apply And.intro) <;> omega
theorem row_4_4_0 (a d : Int) : rowAt a d 4 4 0 = [1 * a + 0 * d, 1 * a + 1 * d, 1 * a + 2 * d, 1 * a + 3 * d, 1 * a + 4 * d, 1 * a + 5 * d, 1 * a + 6 * d, 1 * a + 7 * d, 1 * a + 8 * d, 1 * a + 9 * d, 1 * a + 10 * d, 1 * a + 11 * d, 1 * a + 12 * d, 1 * a + 13 * d, 1 * a + 14 * d, 1 * a + 15 * d] := by
  show [a + ((0 : Nat) : Int) * d, a + ((1 : Nat) : Int) * d, a + ((2 : Nat) : Int) * d, a + ((3 : Nat) : Int) * d, a + ((4 : Nat) : Int) * d, a + ((5 : Nat) : Int) * d, a + ((6 : Nat) : Int) * d, a + ((7 : Nat) : Int) * d, a + ((8 : Nat) : Int) * d, a + ((9 : Nat) : Int) * d, a + ((10 : Nat) : Int) * d, a + ((11 : Nat) : Int) * d, a + ((12 : Nat) : Int) * d, a + ((13 : Nat) : Int) * d, a + ((14 : Nat) : Int) * d, a + ((15 : Nat) : Int) * d] = _
  simp only [List.cons.injEq, and_true]
  (repeat' apply And.intro) <;> omega
theorem kept_4_4_0 (a d : Int) : strike (4 - ((0 : Nat) : Int)) (rowAt a d 4 4 0) = [1 * a + 0 * d, 1 * a + 1 * d, 1 * a + 2 * d, 1 * a + 4 * d, 1 * a + 5 * d, 1 * a + 6 * d, 1 * a + 8 * d, 1 * a + 9 * d, 1 * a + 10 * d, 1 * a + 12 * d, 1 * a + 13 * d, 1 * a + 14 * d] := by
  rw [row_4_4_0]
  exact strike_4_4 _ _ _ _ _ _ _ _ _ _ _ _ _ _ _ _
theorem row_4_4_1 (a d : Int) : rowAt a d 4 4 1 = [1 * a + 0 * d, 2 * a + 1 * d, 3 * a + 3 * d, 4 * a + 7 * d, 5 * a + 12 * d, 6 * a + 18 * d, 7 * a + 26 * d, 8 * a + 35 * d, 9 * a + 45 * d, 10 * a + 57 * d, 11 * a + 70 * d, 12 * a + 84 * d] := by
  rw [rowAt, kept_4_4_0]
  simp only [psum, List.cons.injEq, and_true]
  (repeat' apply And.intro) <;> omega
theorem kept_4_4_1 (a d : Int) : strike (4 - ((1 : Nat) : Int)) (rowAt a d 4 4 1) = [1 * a + 0 * d, 2 * a + 1 * d, 4 * a + 7 * d, 5 * a + 12 * d, 7 * a + 26 * d, 8 * a + 35 * d, 10 * a + 57 * d, 11 * a + 70 * d] := by
  rw [row_4_4_1]
  exact strike_3_4 _ _ _ _ _ _ _ _ _ _ _ _
theorem row_4_4_2 (a d : Int) : rowAt a d 4 4 2 = [1 * a + 0 * d, 3 * a + 1 * d, 7 * a + 8 * d, 12 * a + 20 * d, 19 * a + 46 * d, 27 * a + 81 * d, 37 * a + 138 * d, 48 * a + 208 * d] := by
  rw [rowAt, kept_4_4_1]
  simp only [psum, List.cons.injEq, and_true]
  (repeat' apply And.intro) <;> omega
theorem kept_4_4_2 (a d : Int) : strike (4 - ((2 : Nat) : Int)) (rowAt a d 4 4 2) = [1 * a + 0 * d, 7 * a + 8 * d, 19 * a + 46 * d, 37 * a + 138 * d] := by
  rw [row_4_4_2]
  exact strike_2_4 _ _ _ _ _ _ _ _
theorem row_4_4_3 (a d : Int) : rowAt a d 4 4 3 = [1 * a + 0 * d, 8 * a + 8 * d, 27 * a + 54 * d, 64 * a + 192 * d] := by
  rw [rowAt, kept_4_4_2]
  simp only [psum, List.cons.injEq, and_true]
  (repeat' apply And.intro) <;> omega

theorem bound_nil {M : Int} : ∀ v ∈ ([] : List Int), 0 ≤ v ∧ v ≤ M := fun _ h => nomatch h
theorem bound_cons {M x : Int} {l : List Int} (h : 0 ≤ x ∧ x ≤ M) (r : ∀ v ∈ l, 0 ≤ v ∧ v ≤ M) : ∀ v ∈ x :: l, 0 ≤ v ∧ v ≤ M := fun v hv => (List.mem_cons.mp hv).elim (fun e => e ▸ h) (r v)

theorem lin_ok {a d : Int} (ha : 0 ≤ a ∧ a ≤ 9) (hd' : 0 ≤ d ∧ d ≤ 9) {c e : Int} (h : (0 ≤ c ∧ c ≤ 1000) ∧ 0 ≤ e ∧ e ≤ 1000) : 0 ≤ c * a + e * d ∧ c * a + e * d ≤ 1000000 := by
  have h1 := Int.mul_nonneg h.1.1 ha.1
  have h2 := Int.mul_nonneg h.2.1 hd'.1
  have h3 : c * a ≤ 1000 * 9 := Int.mul_le_mul h.1.2 ha.2 ha.1 (by omega)
  have h4 : e * d ≤ 1000 * 9 := Int.mul_le_mul h.2.2 hd'.2 hd'.1 (by omega)
  omega
theorem row_facts {a d k j : Int} (ha : 0 ≤ a ∧ a ≤ 9) (hd' : 0 ≤ d ∧ d ≤ 9) (hk : 2 ≤ k ∧ k ≤ 4) (hj : 2 ≤ j ∧ j ≤ 4) (i : Nat) (hi : i < (k - 1).toNat) :
    (rowAt a d k j i).length ≤ 16 ∧ ((strike (k - (i : Int)) (rowAt a d k j i)).length : Int) = j * (k - (i : Int) - 1) ∧ ∀ v ∈ strike (k - (i : Int)) (rowAt a d k j i), 0 ≤ v ∧ v ≤ 1000000 := by
  have hk' : k = 2 ∨ k = 3 ∨ k = 4 := by omega
  have hj' : j = 2 ∨ j = 3 ∨ j = 4 := by omega
  rcases hk' with rfl | rfl | rfl <;> rcases hj' with rfl | rfl | rfl
  · have hi' : i = 0 := by omega
    subst hi'
    rw [kept_2_2_0, row_2_2_0]
    refine ⟨by simp, by rfl, ?_⟩
    refine bound_cons (lin_ok ha hd' (by decide)) (bound_cons (lin_ok ha hd' (by decide)) (bound_nil))
  · have hi' : i = 0 := by omega
    subst hi'
    rw [kept_2_3_0, row_2_3_0]
    refine ⟨by simp, by rfl, ?_⟩
    refine bound_cons (lin_ok ha hd' (by decide)) (bound_cons (lin_ok ha hd' (by decide)) (bound_cons (lin_ok ha hd' (by decide)) (bound_nil)))
  · have hi' : i = 0 := by omega
    subst hi'
    rw [kept_2_4_0, row_2_4_0]
    refine ⟨by simp, by rfl, ?_⟩
    refine bound_cons (lin_ok ha hd' (by decide)) (bound_cons (lin_ok ha hd' (by decide)) (bound_cons (lin_ok ha hd' (by decide)) (bound_cons (lin_ok ha hd' (by decide)) (bound_nil))))
  · have hi' : i = 0 ∨ i = 1 := by omega
    rcases hi' with rfl | rfl
    · rw [kept_3_2_0, row_3_2_0]
      refine ⟨by simp, by rfl, ?_⟩
      refine bound_cons (lin_ok ha hd' (by decide)) (bound_cons (lin_ok ha hd' (by decide)) (bound_cons (lin_ok ha hd' (by decide)) (bound_cons (lin_ok ha hd' (by decide)) (bound_nil))))
    · rw [kept_3_2_1, row_3_2_1]
      refine ⟨by simp, by rfl, ?_⟩
      refine bound_cons (lin_ok ha hd' (by decide)) (bound_cons (lin_ok ha hd' (by decide)) (bound_nil))
  · have hi' : i = 0 ∨ i = 1 := by omega
    rcases hi' with rfl | rfl
    · rw [kept_3_3_0, row_3_3_0]
      refine ⟨by simp, by rfl, ?_⟩
      refine bound_cons (lin_ok ha hd' (by decide)) (bound_cons (lin_ok ha hd' (by decide)) (bound_cons (lin_ok ha hd' (by decide)) (bound_cons (lin_ok ha hd' (by decide)) (bound_cons (lin_ok ha hd' (by decide)) (bound_cons (lin_ok ha hd' (by decide)) (bound_nil))))))
    · rw [kept_3_3_1, row_3_3_1]
      refine ⟨by simp, by rfl, ?_⟩
      refine bound_cons (lin_ok ha hd' (by decide)) (bound_cons (lin_ok ha hd' (by decide)) (bound_cons (lin_ok ha hd' (by decide)) (bound_nil)))
  · have hi' : i = 0 ∨ i = 1 := by omega
    rcases hi' with rfl | rfl
    · rw [kept_3_4_0, row_3_4_0]
      refine ⟨by simp, by rfl, ?_⟩
      refine bound_cons (lin_ok ha hd' (by decide)) (bound_cons (lin_ok ha hd' (by decide)) (bound_cons (lin_ok ha hd' (by decide)) (bound_cons (lin_ok ha hd' (by decide)) (bound_cons (lin_ok ha hd' (by decide)) (bound_cons (lin_ok ha hd' (by decide)) (bound_cons (lin_ok ha hd' (by decide)) (bound_cons (lin_ok ha hd' (by decide)) (bound_nil))))))))
    · rw [kept_3_4_1, row_3_4_1]
      refine ⟨by simp, by rfl, ?_⟩
      refine bound_cons (lin_ok ha hd' (by decide)) (bound_cons (lin_ok ha hd' (by decide)) (bound_cons (lin_ok ha hd' (by decide)) (bound_cons (lin_ok ha hd' (by decide)) (bound_nil))))
  · have hi' : i = 0 ∨ i = 1 ∨ i = 2 := by omega
    rcases hi' with rfl | rfl | rfl
    · rw [kept_4_2_0, row_4_2_0]
      refine ⟨by simp, by rfl, ?_⟩
      refine bound_cons (lin_ok ha hd' (by decide)) (bound_cons (lin_ok ha hd' (by decide)) (bound_cons (lin_ok ha hd' (by decide)) (bound_cons (lin_ok ha hd' (by decide)) (bound_cons (lin_ok ha hd' (by decide)) (bound_cons (lin_ok ha hd' (by decide)) (bound_nil))))))
    · rw [kept_4_2_1, row_4_2_1]
      refine ⟨by simp, by rfl, ?_⟩
      refine bound_cons (lin_ok ha hd' (by decide)) (bound_cons (lin_ok ha hd' (by decide)) (bound_cons (lin_ok ha hd' (by decide)) (bound_cons (lin_ok ha hd' (by decide)) (bound_nil))))
    · rw [kept_4_2_2, row_4_2_2]
      refine ⟨by simp, by rfl, ?_⟩
      refine bound_cons (lin_ok ha hd' (by decide)) (bound_cons (lin_ok ha hd' (by decide)) (bound_nil))
  · have hi' : i = 0 ∨ i = 1 ∨ i = 2 := by omega
    rcases hi' with rfl | rfl | rfl
    · rw [kept_4_3_0, row_4_3_0]
      refine ⟨by simp, by rfl, ?_⟩
      refine bound_cons (lin_ok ha hd' (by decide)) (bound_cons (lin_ok ha hd' (by decide)) (bound_cons (lin_ok ha hd' (by decide)) (bound_cons (lin_ok ha hd' (by decide)) (bound_cons (lin_ok ha hd' (by decide)) (bound_cons (lin_ok ha hd' (by decide)) (bound_cons (lin_ok ha hd' (by decide)) (bound_cons (lin_ok ha hd' (by decide)) (bound_cons (lin_ok ha hd' (by decide)) (bound_nil)))))))))
    · rw [kept_4_3_1, row_4_3_1]
      refine ⟨by simp, by rfl, ?_⟩
      refine bound_cons (lin_ok ha hd' (by decide)) (bound_cons (lin_ok ha hd' (by decide)) (bound_cons (lin_ok ha hd' (by decide)) (bound_cons (lin_ok ha hd' (by decide)) (bound_cons (lin_ok ha hd' (by decide)) (bound_cons (lin_ok ha hd' (by decide)) (bound_nil))))))
    · rw [kept_4_3_2, row_4_3_2]
      refine ⟨by simp, by rfl, ?_⟩
      refine bound_cons (lin_ok ha hd' (by decide)) (bound_cons (lin_ok ha hd' (by decide)) (bound_cons (lin_ok ha hd' (by decide)) (bound_nil)))
  · have hi' : i = 0 ∨ i = 1 ∨ i = 2 := by omega
    rcases hi' with rfl | rfl | rfl
    · rw [kept_4_4_0, row_4_4_0]
      refine ⟨by simp, by rfl, ?_⟩
      refine bound_cons (lin_ok ha hd' (by decide)) (bound_cons (lin_ok ha hd' (by decide)) (bound_cons (lin_ok ha hd' (by decide)) (bound_cons (lin_ok ha hd' (by decide)) (bound_cons (lin_ok ha hd' (by decide)) (bound_cons (lin_ok ha hd' (by decide)) (bound_cons (lin_ok ha hd' (by decide)) (bound_cons (lin_ok ha hd' (by decide)) (bound_cons (lin_ok ha hd' (by decide)) (bound_cons (lin_ok ha hd' (by decide)) (bound_cons (lin_ok ha hd' (by decide)) (bound_cons (lin_ok ha hd' (by decide)) (bound_nil))))))))))))
    · rw [kept_4_4_1, row_4_4_1]
      refine ⟨by simp, by rfl, ?_⟩
      refine bound_cons (lin_ok ha hd' (by decide)) (bound_cons (lin_ok ha hd' (by decide)) (bound_cons (lin_ok ha hd' (by decide)) (bound_cons (lin_ok ha hd' (by decide)) (bound_cons (lin_ok ha hd' (by decide)) (bound_cons (lin_ok ha hd' (by decide)) (bound_cons (lin_ok ha hd' (by decide)) (bound_cons (lin_ok ha hd' (by decide)) (bound_nil))))))))
    · rw [kept_4_4_2, row_4_4_2]
      refine ⟨by simp, by rfl, ?_⟩
      refine bound_cons (lin_ok ha hd' (by decide)) (bound_cons (lin_ok ha hd' (by decide)) (bound_cons (lin_ok ha hd' (by decide)) (bound_cons (lin_ok ha hd' (by decide)) (bound_nil))))

theorem row_due {a d k j : Int} (hk : 2 ≤ k ∧ k ≤ 4) (hj : 2 ≤ j ∧ j ≤ 4) : rowAt a d k j (k - 1).toNat = dueAt a d k (rangeKs 1 j.toNat) := by
  have hk' : k = 2 ∨ k = 3 ∨ k = 4 := by omega
  have hj' : j = 2 ∨ j = 3 ∨ j = 4 := by omega
  rcases hk' with rfl | rfl | rfl <;> rcases hj' with rfl | rfl | rfl
  · refine (row_2_2_1 a d).trans ?_
    show _ = [1 * (a + (0) * d), 2 * (a + (1) * d)]
    simp only [List.cons.injEq, and_true]
    (repeat' apply And.intro) <;> omega
  · refine (row_2_3_1 a d).trans ?_
    show _ = [1 * (a + (0) * d), 2 * (a + (1) * d), 3 * (a + (2) * d)]
    simp only [List.cons.injEq, and_true]
    (repeat' apply And.intro) <;> omega
  · refine (row_2_4_1 a d).trans ?_
    show _ = [1 * (a + (0) * d), 2 * (a + (1) * d), 3 * (a + (2) * d), 4 * (a + (3) * d)]
    simp only [List.cons.injEq, and_true]
    (repeat' apply And.intro) <;> omega
  · refine (row_3_2_2 a d).trans ?_
    show _ = [1 * (a + (0) * d), 4 * (a + (1) * d)]
    simp only [List.cons.injEq, and_true]
    (repeat' apply And.intro) <;> omega
  · refine (row_3_3_2 a d).trans ?_
    show _ = [1 * (a + (0) * d), 4 * (a + (1) * d), 9 * (a + (2) * d)]
    simp only [List.cons.injEq, and_true]
    (repeat' apply And.intro) <;> omega
  · refine (row_3_4_2 a d).trans ?_
    show _ = [1 * (a + (0) * d), 4 * (a + (1) * d), 9 * (a + (2) * d), 16 * (a + (3) * d)]
    simp only [List.cons.injEq, and_true]
    (repeat' apply And.intro) <;> omega
  · refine (row_4_2_3 a d).trans ?_
    show _ = [1 * (a + (0) * d), 8 * (a + (1) * d)]
    simp only [List.cons.injEq, and_true]
    (repeat' apply And.intro) <;> omega
  · refine (row_4_3_3 a d).trans ?_
    show _ = [1 * (a + (0) * d), 8 * (a + (1) * d), 27 * (a + (2) * d)]
    simp only [List.cons.injEq, and_true]
    (repeat' apply And.intro) <;> omega
  · refine (row_4_4_3 a d).trans ?_
    show _ = [1 * (a + (0) * d), 8 * (a + (1) * d), 27 * (a + (2) * d), 64 * (a + (3) * d)]
    simp only [List.cons.injEq, and_true]
    (repeat' apply And.intro) <;> omega
end PL

section A1
theorem fr_one {h₀ h : Heap} {L : Addr} {m : Str → Option Value} {y : Str} {v : Value} (F : Fr h₀ L h m) (hm : m y = some v) : Fr h₀ L h (fun z => if z = y then some v else m z) := by
  have e : (fun z => if z = y then some v else m z) = m := by
    funext z
    by_cases q : z = y
    · rw [if_pos q, q]; exact hm.symm
    · rw [if_neg q]
  rw [e]
  exact F

theorem rest_of (z : Int) : 2 ≤ 2 + z.fmod 3 ∧ 2 + z.fmod 3 ≤ 4 := by
  have h1 := Int.fmod_nonneg_of_pos z (show (0 : Int) < 3 by decide)
  have h2 := Int.fmod_lt_of_pos z (show (0 : Int) < 3 by decide)
  omega
theorem rest_ten (z : Int) : 0 ≤ z.fmod 10 ∧ z.fmod 10 ≤ 9 := by
  have h1 := Int.fmod_nonneg_of_pos z (show (0 : Int) < 10 by decide)
  have h2 := Int.fmod_lt_of_pos z (show (0 : Int) < 10 by decide)
  omega
theorem lay_size {vs : List Value} {ns : List Int} (hi : IntsAre vs ns) (h : ns.length ≤ 1000) : vs.toArray.size ≤ sizeLine := by
  rw [List.size_toArray, hi.length, PySem.sizeLine_eq]
  omega
set_option maxRecDepth 100000 in
set_option maxHeartbeats 8000000 in
theorem a0 {w : World} {mean : ExcName → Option Value} {mg mb : Str → Option Value} {L fa : Addr} {cd : Value} {base h₀ : Heap} {s : Shared} {Q : Flow → Shared → Prop} {rc sc : Obj} {u : Str → Option Value} {pl : Addr} {vs : List Value} {ns : List Int} (hP : h₀.IsList pl vs.toArray) (hI : IntsAre vs ns) (hlen : ns.length ≤ 63)
    (B : Below callerA base [] h₀) (X : (hd.heap_39 w.params).In h₀) (T : Top hd.view_39 (looseW hd.view_39 [Str.ofString "SnobolError"]) mean mg mb h₀)
    (F : Fr h₀ L s.heap (fun y => if y = Str.ofString "script" then some (.ref pl) else u y))
    (N : News h₀ L s.heap [(L + 1 + 1, sc), (L + 1, rc)])
    (hQ : ∀ (ul : Addr) (us : List Value) nu h' tk', IntsAre us [1, 2, 1, 3] → ((@LT.lt Nat _ (L + 1 + 1) ul) ∧ (@LT.lt Nat _ (L + 1) ul)) → Fr h₀ L h' (fun y => if y = Str.ofString "usual" then some (.ref ul) else if y = Str.ofString "script" then some (.ref pl) else u y) → News h₀ L h' [(ul, PySem.W.listOf us.toArray nu), (L + 1 + 1, sc), (L + 1, rc)] → Q .next { s with heap := h', toks := tk' }) :
    wpAny (model PySem.Challenge.rw_xw0304_01.row.prog w) (callerA.deeper (lawEnv L fa cd)) (exec (st 0) (lawEnv L fa cd)) Q (fun _ _ => False) s := by
  dsimp only [lawEnv, lawScope, scopeOf, st, lawDef, bodyOf, nth, PySem.Challenge.pw_xw0304_01]
  k_steps
  rename Fr _ _ _ _ => F9
  rename News _ _ _ _ => N9
  rename (_ < _ ∧ _) => o9
  exact hQ _ [_, _, _, _] _ _ _ (.cons _ _ (.cons _ _ (.cons _ _ (.cons _ _ .nil)))) o9 F9 N9

set_option maxRecDepth 100000 in
set_option maxHeartbeats 8000000 in
theorem a1 {w : World} {mean : ExcName → Option Value} {mg mb : Str → Option Value} {L fa : Addr} {cd : Value} {base h₀ : Heap} {s : Shared} {Q : Flow → Shared → Prop} {rc sc : Obj} {u : Str → Option Value} {pl : Addr} {vs : List Value} {ns : List Int} (hP : h₀.IsList pl vs.toArray) (hI : IntsAre vs ns) (hlen : ns.length ≤ 63) {ul : Addr} {us : List Value} {nu : Nat}
    (B : Below callerA base [] h₀) (X : (hd.heap_39 w.params).In h₀) (T : Top hd.view_39 (looseW hd.view_39 [Str.ofString "SnobolError"]) mean mg mb h₀)
    (F : Fr h₀ L s.heap (fun y => if y = Str.ofString "usual" then some (.ref ul) else if y = Str.ofString "script" then some (.ref pl) else u y))
    (N : News h₀ L s.heap [(ul, PySem.W.listOf us.toArray nu), (L + 1 + 1, sc), (L + 1, rc)]) (hU : IntsAre us [1, 2, 1, 3]) (ho : (@LT.lt Nat _ (L + 1 + 1) ul) ∧ (@LT.lt Nat _ (L + 1) ul))
    (hQ : ∀ (cl : Addr) (ys : List Value) (cs : List Int) h' tk', IntsAre ys cs → cs.length = 4 → ((@LT.lt Nat _ (L + 1 + 1) cl) ∧ (@LT.lt Nat _ (L + 1) cl)) → Fr h₀ L h' (fun y => if y = Str.ofString "cells" then some (.ref cl) else if y = Str.ofString "usual" then some (.ref ul) else if y = Str.ofString "script" then some (.ref pl) else u y) → News h₀ L h' [(cl, PySem.W.listOf ys.toArray 0), (L + 1 + 1, sc), (L + 1, rc)] → Q .next { s with heap := h', toks := tk' }) :
    wpAny (model PySem.Challenge.rw_xw0304_01.row.prog w) (callerA.deeper (lawEnv L fa cd)) (exec (st 1) (lawEnv L fa cd)) Q (fun _ _ => False) s := by
  dsimp only [lawEnv, lawScope, scopeOf, st, lawDef, bodyOf, nth, PySem.Challenge.pw_xw0304_01]
  repeat' (first | ((with_reducible show wpAny _ _ (subscriptTail _ (PySem.Expr.Slice _ _ none _) (Value.ref _) (Value.ref _)) _ _ _); k_dflt (refine' kmk_slice_ints ?zF ?zN ?zl ?zp ?zq ?zi ?zm ?zc ?_ ?zs ?zt ?zz; (case zF => k_asm); (case zN => k_asm); (case zl => first | exact Heap.IsList.at (by with_reducible assumption) (fun o e => Fr.keep (by k_asm) _ o e) | exact News.isList (by k_asm) (by k_mem)); (case zp => kmk_part); (case zq => kmk_part); (case zi => with_reducible assumption); (case zm => first | exact kmk_from (by with_reducible assumption) (by omega) | exact kmk_upto (by with_reducible assumption) (by omega)); (case zc => first | exact List.length_drop .. | exact List.length_take ..); (case zs => with_unfolding_all rfl); (case zt => kmk_pure); (case zz => exact lay_size (by with_reducible assumption) (by first | omega | decide))); intro D' ws' h' F' N' l1 hI' hC' hL'; (try k_lt l1); (try k_sweep)) | (k_unfold; (try dsimp only)) | (k_end; wrow_close) | walk1 | (dsimp only; walk1) | (leave1; try dsimp only) | fail "no step")
  rename Fr _ _ _ _ => F9
  rename News _ _ _ _ => N9
  rename IntsAre _ (_ ++ _) => I9
  rename (_ < _ ∧ _) => o9
  exact hQ _ _ _ _ _ I9 (by rw [List.length_append, List.length_map, List.length_drop, List.length_take]; simp; omega) ⟨by omega, by omega⟩ F9 (cb_drop N9 fun p hp => (List.mem_cons.mp hp).elim (fun e => e ▸ .head _) fun h => .tail _ (.tail _ (.tail _ (.tail _ (.tail _ (.tail _ h))))))

section WorldMade
theorem cb_tail {h₀ h : Heap} {L : Addr} {q : Addr × Obj} {news : List (Addr × Obj)} (N : News h₀ L h (q :: news)) : News h₀ L h news := fun p hp => N p (.tail _ hp)
def Plain (es : List DictEntry) (c : Nat) : Prop := es.any (·.refKey) = false ∧ es.length ≤ c
theorem putL_plain {name : Str} {hsh : Int} {tk : Tok} {v : Value} : ∀ {es : List DictEntry} {c : Nat}, Plain es c → Plain (putL name hsh (.str name tk) v es) (c + 1)
  | [], _, _ => ⟨rfl, by simp [putL]⟩
  | e :: r, 0, h => by have := h.2; simp at this
  | e :: r, c + 1, h => by
    have h1 := h.1
    rw [List.any_cons, Bool.or_eq_false_iff] at h1
    have hl : r.length ≤ c := by have := h.2; rw [List.length_cons] at this; omega
    unfold putL
    split
    · refine ⟨?_, by rw [List.length_cons]; omega⟩
      rw [List.any_cons, Bool.or_eq_false_iff]
      exact ⟨h1.1, h1.2⟩
    · have ih := putL_plain (name := name) (hsh := hsh) (tk := tk) (v := v) (es := r) ⟨h1.2, hl⟩
      refine ⟨?_, by rw [List.length_cons]; have := ih.2; omega⟩
      rw [List.any_cons, Bool.or_eq_false_iff]
      exact ⟨h1.1, ih.1⟩
theorem getL_plain {name : Str} {es : List DictEntry} (h : es.any (·.refKey) = false) : (getL name es).isSome = true := by
  unfold getL
  rw [h]
  split <;> rfl

/-- a field other than the width is set: of the dict's other entries only that they are plain is kept in mind -/
theorem set_other {w : World} {A : Around} {E : Value → Shared → Prop} {s : Shared} {x dx L : Addr} {h₀ : Heap} {m : Str → Option Value} {news : List (Addr × Obj)} {t1 t2 : Tok} {rest : List DictEntry} {n c : Nat} {name : Str} {v : Value} {Q : Unit → Shared → Prop}
    (F : Fr h₀ L s.heap m) (X₀ : (hd.heap_39 w.params).In h₀) (N : News h₀ L s.heap ((x, instObj 223 dx) :: (dx, dictOf (⟨PyData.keyHash w.params (Str.ofString "width"), .str (Str.ofString "width") t1, .int 32 t2⟩ :: rest) n) :: news))
    (hP : Plain rest c) (hc : c ≤ 900) (off : (∀ p ∈ news, p.1 ≠ dx) ∧ x ≠ dx) (hn : (Value.str (Str.ofString "width") t1).isStr name = false) (ht : takerIn (hd.heap_39 w.params) 223 name = some none)
    (h : ∀ rest' n' h' tk', Fr h₀ L h' m → News h₀ L h' ((x, instObj 223 dx) :: (dx, dictOf (⟨PyData.keyHash w.params (Str.ofString "width"), .str (Str.ofString "width") t1, .int 32 t2⟩ :: rest') n') :: news) → Plain rest' (c + 1) → ((∀ p ∈ news, p.1 ≠ dx) ∧ x ≠ dx) → Q () { s with heap := h', toks := tk' }) :
    wpAny (model PySem.Challenge.rw_xw0304_01.row.prog w) A (setAttr (.ref x) name v) Q E s := by
  have hany : (⟨PyData.keyHash w.params (Str.ofString "width"), .str (Str.ofString "width") t1, .int 32 t2⟩ :: rest : List DictEntry).any (·.refKey) = false := by
    rw [List.any_cons, hP.1]; rfl
  have hq := putL_plain (name := name) (hsh := PyData.keyHash w.params name) (tk := s.toks + 1) (v := v) hP
  have e : putL name (PyData.keyHash w.params name) (.str name (s.toks + 1)) v (⟨PyData.keyHash w.params (Str.ofString "width"), .str (Str.ofString "width") t1, .int 32 t2⟩ :: rest) = ⟨PyData.keyHash w.params (Str.ofString "width"), .str (Str.ofString "width") t1, .int 32 t2⟩ :: putL name (PyData.keyHash w.params name) (.str name (s.toks + 1)) v rest := by
    conv => lhs; unfold putL
    exact if_neg (by rw [hn]; decide)
  refine set_dict F X₀ N (InstAt.of_news N (.head _) (.tail _ (.head _))) rfl ?_ ?_ ht ?_ (getL_plain hany) (Prod.ext e rfl) (.tail off.2 (.head off.1)) ?_ fun h' F' N' => h _ _ h' _ F' N' hq off
  · k_is
  · k_is
  · k_is
  · have := hq.2
    rw [List.length_cons]
    omega

set_option maxRecDepth 100000 in
set_option maxHeartbeats 8000000 in
theorem a2 {w : World} {mean : ExcName → Option Value} {mg mb : Str → Option Value} {L fa : Addr} {cd : Value} {base h₀ : Heap} {s : Shared} {Q : Flow → Shared → Prop} {rc sc : Obj} {u : Str → Option Value} {cl : Addr} {ys : List Value} {cs : List Int}
    (B : Below callerA base [] h₀) (X : (hd.heap_39 w.params).In h₀) (T : Top hd.view_39 (looseW hd.view_39 [Str.ofString "SnobolError"]) mean mg mb h₀)
    (F : Fr h₀ L s.heap (fun y => if y = Str.ofString "cells" then some (.ref cl) else u y))
    (N : News h₀ L s.heap [(cl, PySem.W.listOf ys.toArray 0), (L + 1 + 1, sc), (L + 1, rc)]) (hC : IntsAre ys cs) (hc : cs.length = 4) (ho : (@LT.lt Nat _ (L + 1 + 1) cl) ∧ (@LT.lt Nat _ (L + 1) cl))
    (hQ : ∀ (x dx : Addr) (t1 t2 : Tok) (rest : List DictEntry) (n : Nat) (k j : Int) (tk tj : Tok) h' tk', 2 ≤ k ∧ k ≤ 4 → 2 ≤ j ∧ j ≤ 4 → @LT.lt Nat _ (L + 1) dx → @LT.lt Nat _ (L + 1 + 1) dx → @LT.lt Nat _ dx x →
      Fr h₀ L h' (fun y => if y = Str.ofString "world" then some (.ref x) else if y = Str.ofString "each" then some (.int k tk) else if y = Str.ofString "many" then some (.int j tj) else if y = Str.ofString "cells" then some (.ref cl) else u y) → News h₀ L h' [(cl, PySem.W.listOf ys.toArray 0), (x, instObj 223 dx), (dx, dictOf (⟨PyData.keyHash w.params (Str.ofString "width"), .str (Str.ofString "width") t1, .int 32 t2⟩ :: rest) n), (L + 1 + 1, sc), (L + 1, rc)] → Q .next { s with heap := h', toks := tk' }) :
    wpAny (model PySem.Challenge.rw_xw0304_01.row.prog w) (callerA.deeper (lawEnv L fa cd)) (exec (st 2) (lawEnv L fa cd)) Q (fun _ _ => False) s := by
  dsimp only [lawEnv, lawScope, scopeOf, st, lawDef, bodyOf, nth, PySem.Challenge.pw_xw0304_01]
  repeat' (first | ((with_reducible show wpAny _ _ (setAttr (Value.ref _) _ _) _ _ _); k_dflt (refine' set_other ?zF ?zX ?zN ?zp ?zc ?zo ?zn ?zt ?_; (case zF => k_asm); (case zX => k_asm); (case zN => first | k_asm | exact cb_tail (by k_asm)); (case zp => first | with_reducible assumption | exact (⟨rfl, Nat.le_refl _⟩ : Plain [] 0)); (case zc => decide); (case zo => first | with_reducible assumption | (refine ⟨?_, neN ?_⟩; k_all; omega)); (case zn => rfl); (case zt => k_is); k_whole); intro r' n' h' tk' F' N' p' o'; (try dsimp only); (try k_sweep)) | ((with_reducible show wpAny _ _ (eval (PySem.Expr.Dict [] [] _) _) _ _ _); k_dflt (refine' newDict_K ?k1 ?k2 (TopRead.nolimit (by k_asm)) ?_; (case k1 => k_asm); (case k2 => k_asm); k_whole); intro d' h' o' F' N' l1 lo' hs' fs' hi' fi'; (clear l1 lo' hs' fs' hi' fi'); (replace N' := cb_drop N' (fun p hp => List.Mem.tail _ hp)); (try k_sweep)) | ((with_reducible show wpAny _ _ (newList []) _ _ _); k_dflt (refine' newList_K ?k1 ?k2 ?_; (case k1 => k_asm); (case k2 => k_asm); k_whole); intro l' h' F' N' l1; clear l1; (replace N' := cb_drop N' (fun p hp => List.Mem.tail _ hp)); (try k_sweep)) | (k_unfold; (try dsimp only)) | (k_end; wrow_close) | walk1 | (dsimp only; walk1) | (leave1; try dsimp only) | fail "no step")
  rename Fr _ _ _ _ => F9
  rename News _ _ _ _ => N9
  refine' hQ _ _ _ _ _ _ _ _ _ _ _ _ ?e1 ?e2 ?o1 ?o2 ?o3 F9 (cb_drop N9 ?e3)
  case e3 =>
    intro p hp
    simp only [List.mem_cons, List.not_mem_nil, or_false] at hp
    rcases hp with rfl | rfl | rfl | rfl | rfl <;> k_mem
  case e1 => exact rest_of _
  case e2 => exact rest_of _
  case o1 => omega
  case o2 => omega
  case o3 => omega

end WorldMade

set_option maxRecDepth 100000 in
set_option maxHeartbeats 8000000 in
theorem a3 {w : World} {mean : ExcName → Option Value} {mg mb : Str → Option Value} {L fa : Addr} {cd : Value} {base h₀ : Heap} {s : Shared} {Q : Flow → Shared → Prop}
    {a d k j : Int} {ta td tk tj t1 t2 : Tok} {x dx : Addr} {rest : List DictEntry} {n : Nat} {rc sc : Obj} {u : Str → Option Value} {cl : Addr} {ys : List Value} {cs : List Int}
    (B : Below callerA base [] h₀) (X : (hd.heap_39 w.params).In h₀) (T : Top hd.view_39 (looseW hd.view_39 [Str.ofString "SnobolError"]) mean mg mb h₀)
    (F : Fr h₀ L s.heap (fun y => if y = Str.ofString "world" then some (.ref x) else if y = Str.ofString "each" then some (.int k tk) else if y = Str.ofString "many" then some (.int j tj) else if y = Str.ofString "cells" then some (.ref cl) else u y))
    (N : News h₀ L s.heap [(cl, PySem.W.listOf ys.toArray 0), (x, instObj 223 dx), (dx, dictOf (⟨PyData.keyHash w.params (Str.ofString "width"), .str (Str.ofString "width") t1, .int 32 t2⟩ :: rest) n), (L + 1 + 1, sc), (L + 1, rc)]) (hC : IntsAre ys cs) (hc : cs.length = 4)
    (hQ : ∀ (u' : Str → Option Value) (a d : Int) (ta td : Tok) h' tk', 0 ≤ a ∧ a ≤ 9 → 0 ≤ d ∧ d ≤ 9 → Fr h₀ L h' (fun y => if y = Str.ofString "world" then some (.ref x) else if y = Str.ofString "each" then some (.int k tk) else if y = Str.ofString "many" then some (.int j tj) else if y = Str.ofString "first" then some (.int a ta) else if y = Str.ofString "more" then some (.int d td) else u' y) → News h₀ L h' [(x, instObj 223 dx), (dx, dictOf (⟨PyData.keyHash w.params (Str.ofString "width"), .str (Str.ofString "width") t1, .int 32 t2⟩ :: rest) n), (L + 1 + 1, sc), (L + 1, rc)] → Q .next { s with heap := h', toks := tk' }) :
    wpAny (model PySem.Challenge.rw_xw0304_01.row.prog w) (callerA.deeper (lawEnv L fa cd)) (exec (st 3) (lawEnv L fa cd)) Q (fun _ _ => False) s := by
  dsimp only [lawEnv, lawScope, scopeOf, st, lawDef, bodyOf, nth, PySem.Challenge.pw_xw0304_01]
  k_steps
  rename Fr _ _ _ _ => F9
  rename News _ _ _ _ => N9
  refine' hQ _ _ _ _ _ _ _ ?e1 ?e2 (fr_norm F9 rfl rfl rfl rfl rfl) (cb_drop N9 ?e3)
  case e3 =>
    intro p hp
    simp only [List.mem_cons, List.not_mem_nil, or_false] at hp
    rcases hp with rfl | rfl | rfl | rfl <;> k_mem
  case e1 => exact rest_ten _
  case e2 => exact rest_ten _

set_option maxRecDepth 100000 in
set_option maxHeartbeats 8000000 in
theorem a4 {w : World} {mean : ExcName → Option Value} {mg mb : Str → Option Value} {L fa : Addr} {cd : Value} {base h₀ : Heap} {s : Shared} {Q : Flow → Shared → Prop}
    {a d k j : Int} {ta td tk tj t1 t2 : Tok} {x dx : Addr} {rest : List DictEntry} {n : Nat} {rc sc : Obj} {u : Str → Option Value} {v₀ : Option Value}
    (B : Below callerA base [] h₀) (X : (hd.heap_39 w.params).In h₀) (T : Top hd.view_39 (looseW hd.view_39 [Str.ofString "SnobolError"]) mean mg mb h₀)
    (F : Fr h₀ L s.heap (fun y => if y = Str.ofString "world" then some (.ref x) else if y = Str.ofString "each" then some (.int k tk) else if y = Str.ofString "many" then some (.int j tj) else if y = Str.ofString "first" then some (.int a ta) else if y = Str.ofString "more" then some (.int d td) else u y))
    (N : News h₀ L s.heap [(x, instObj 223 dx), (dx, dictOf (⟨PyData.keyHash w.params (Str.ofString "width"), .str (Str.ofString "width") t1, .int 32 t2⟩ :: rest) n), (L + 1 + 1, sc), (L + 1, rc)]) (hrc : rc.data = .cell v₀) (hl1 : @LT.lt Nat _ (L + 1) dx) (hl2 : @LT.lt Nat _ (L + 1 + 1) dx) (hl3 : @LT.lt Nat _ dx x)
    (hQ : ∀ (rl : Addr) (rc' : Obj) h' tk', rc'.data = .cell (some (.ref rl)) → @LT.lt Nat _ x rl → Fr h₀ L h' (fun y => if y = Str.ofString "world" then some (.ref x) else if y = Str.ofString "each" then some (.int k tk) else if y = Str.ofString "many" then some (.int j tj) else if y = Str.ofString "first" then some (.int a ta) else if y = Str.ofString "more" then some (.int d td) else u y) → News h₀ L h' [(rl, PySem.W.listOf #[.int a ta] 0), (x, instObj 223 dx), (dx, dictOf (⟨PyData.keyHash w.params (Str.ofString "width"), .str (Str.ofString "width") t1, .int 32 t2⟩ :: rest) n), (L + 1 + 1, sc), (L + 1, rc')] → Q .next { s with heap := h', toks := tk' }) :
    wpAny (model PySem.Challenge.rw_xw0304_01.row.prog w) (callerA.deeper (lawEnv L fa cd)) (exec (st 4) (lawEnv L fa cd)) Q (fun _ _ => False) s := by
  dsimp only [lawEnv, lawScope, scopeOf, st, lawDef, bodyOf, nth, PySem.Challenge.pw_xw0304_01]
  k_steps
  rename Fr _ _ _ _ => F9
  rename News _ _ _ _ => N9
  rename (_ = Data.cell (some (Value.ref _))) => d9
  rename (_ < _ ∧ _) => o9
  exact hQ _ _ _ _ d9 (by omega) F9 N9

theorem body10 : bodyOf lawDef = [st 0, st 1, st 2, st 3, st 4, st 5, st 6, st 7, st 8, st 9] := rfl

theorem whole {w : World} {mean : ExcName → Option Value} {mg mb : Str → Option Value} {L fa : Addr} {cd : Value} {base h₀ : Heap} {s : Shared} {Q : Flow → Shared → Prop} {rc sc : Obj} {u : Str → Option Value} {E : Value → Shared → Prop} {m : Str → Option Value} {v₀ v₁ : Option Value} {pl : Addr} {vs : List Value} {ns : List Int} (hP : h₀.IsList pl vs.toArray) (hI : IntsAre vs ns) (hlen : ns.length ≤ 63)
    (B : Below callerA base [] h₀) (X : (hd.heap_39 w.params).In h₀) (T : Top hd.view_39 (looseW hd.view_39 [Str.ofString "SnobolError"]) mean mg mb h₀)
    (F : Fr h₀ L s.heap m) (hm : m (Str.ofString "script") = some (.ref pl))
    (N : News h₀ L s.heap [(L + 1 + 1, sc), (L + 1, rc)]) (hrc : rc.data = .cell v₀) (hsc : sc.data = .cell v₁)
    (hQ : ∀ (m' : Str → Option Value) (nw : List (Addr × Obj)) h' tk', Fr h₀ L h' m' → News h₀ L h' nw → Q (.ret (.bool true)) { s with heap := h', toks := tk' }) :
    wpAny (model PySem.Challenge.rw_xw0304_01.row.prog w) (callerA.deeper (lawEnv L fa cd)) (execs (bodyOf lawDef) (lawEnv L fa cd)) Q E s := by
  refine wpAny_mono ?_ (fun _ _ x => x) fun _ _ (x : False) => x.elim
  rw [body10]
  refine wpAny_execs_cons (a0 hP hI hlen B X T (fr_one F hm) N fun ul us nu h tk' I0 o0 F N => ?_)
  refine wpAny_execs_cons (a1 hP hI hlen B X T F N I0 o0 fun cl ys cs h tk' I1 hc o1 F N => ?_)
  refine wpAny_execs_cons (a2 B X T F N I1 hc o1 fun x dx t1 t2 rest n k j tk tj h tk' hk hj hl1 hl2 hl3 F N => ?_)
  refine wpAny_execs_cons (a3 (a := 0) (d := 0) (ta := 0) (td := 0) B X T F N I1 hc fun u' a d ta td h tk' ha hd' F N => ?_)
  refine wpAny_execs_cons (a4 B X T F N hrc hl1 hl2 hl3 fun rl rc' h tk' hrc' hl4 F N => ?_)
  have o0 : ((@Ne Nat x rl) ∧ (@Ne Nat dx rl) ∧ (@Ne Nat (L + 1 + 1) rl) ∧ (@Ne Nat (L + 1) rl)) := by refine ⟨?_, ?_, ?_, ?_⟩ <;> refine neN ?_ <;> omega
  refine wpAny_execs_cons (s5 ha hd' hk hj B X T F N hrc' hl1 hl2 hl3 hl4 fun u' h tk' vs n'' I1 F N => ?_)
  refine wpAny_execs_cons (s6 hk hj (fun i hi => row_facts ha hd' hk hj i hi) B X T F N I1 hrc' hsc hl1 hl2 hl3 o0 fun u' rc'' sc' rl' vs nr h tk' I2 hrc'' o1 F N => ?_)
  refine wpAny_execs_cons (s7 B X T F N hl1 hl2 hl3 o1 fun ul h tk' o2 e2 F N => ?_)
  refine wpAny_execs_cons (s8 ha hd' hk hj B X T F N hl1 hl2 hl3 o1 o2 e2 fun u' us nu h tk' I3 F N => ?_)
  rw [row_due hk hj] at I2
  refine wpAny_execs_cons (s9 I2 I3 ?_ B X T F N hrc'' hl1 hl2 hl3 o1 o2 e2 fun m' nw h tk' F N => hQ m' nw h tk' F N)
  unfold dueAt
  rw [List.length_map, rangeKs_length]
  omega
end A1

set_option maxRecDepth 100000 in
set_option maxHeartbeats 80000000 in
theorem main : PySem.Challenge.rw_xw0304_01.Holds := hd (by
  w_strict k_go0
  rename Fr _ _ _ _ => F9
  rename News _ _ _ _ => N9
  rename Below _ _ _ _ => B9
  rename Heap.IsList _ _ _ => P9
  rename IntsAre _ _ => I9
  rename ¬ _ < _ => hlen9
  rename (Top _ _ _ _ _ _) => T9
  refine whole (u := fun _ => none) P9 I9 (by omega) B9 (by assumption) T9 F9 rfl N9 (by assumption) (by assumption) (fun m' nw h' tk' F' N' => ?_)
  try dsimp only
  k_steps)
end Mine

theorem PySem.Challenge.cw_xw0304_01_holds : PySem.Challenge.rw_xw0304_01.Holds := by
  exact Mine.main
