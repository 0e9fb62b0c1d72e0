import PyProof.Rows.All
import Wide.All
import OpenK.AllK
import Wide.FinOn
import PySem.Challenge.RW_nu0001_01
open PySem PySem.W PyProof.Rows
set_option Elab.async false
namespace Mine
set_option maxRecDepth 100000 in
set_option maxHeartbeats 8000000 in
open_top hd for PySem.Challenge.rw_nu0001_01
end Mine

/-! part: Take -/
namespace Mine
section TakePart
theorem mulok_mod (x b : Int) : IntMulOk (x.fmod 2147483647) b :=
  IntMulOk.of_left (intBits_le_64 (by have := Int.fmod_nonneg_of_pos x (b := 2147483647) (by decide); omega) (by have := Int.fmod_lt_of_pos x (b := 2147483647) (by decide); omega))
theorem fmod_lo (x : Int) {b : Int} (h : 0 < b) : 0 ≤ x.fmod b := Int.fmod_nonneg_of_pos x h
theorem fmod_hi (x : Int) {b : Int} (h : 0 < b) : x.fmod b < b := Int.fmod_lt_of_pos x h

/-- a function's frame on top -/
abbrev top1 (dp un : Nat) (gd : Option (List Code)) (env : Env) (outer : List Env) : Around := { handled := none, depth := dp, frames := some (env :: outer), guards := gd, units := un }
abbrev src (s0 : Int) (t0 : Tok) (s1 : Int) (t1 : Tok) (n : Nat) : Obj := listOf [Value.int s0 t0, Value.int s1 t1].toArray n

local macro_rules | `(tactic| k_all) => `(tactic| assumption)
local macro_rules | `(tactic| mul_fits) => `(tactic| with_unfolding_all exact mulok_mod _ _)
local macro_rules | `(tactic| walk_at "m_enter") => `(tactic| (refine' code_def ?k1 ?k2 ?k3 ?k4 ?k5 ?kA ?kF ?kK ?k6 ?k7 ?k8 ?k9 ?kB ?_ ?c2 ?c3 ?c4 ?c5; (case kA => exact rfl); (case kF => assumption); (case kK => assumption); (case k1 => k_asm); (case k2 => k_asm); (case k3 => k_asm); (case k4 => k_asm); (case k5 => k_asm); (case k6 => k_is); (case k7 => k_is); (case k8 => ktr_room); (case k9 => exact BindsTo.of_eq rfl); (case c5 => decide); (case kB => exact locs rfl); (case c2 => exact rfl); (case c3 => exact rfl); (case c4 => exact rfl); k_whole; intro g' L' h' FG' F' N' B' X' T'; (try dsimp only); (try k_fold)))

set_option maxRecDepth 100000 in
set_option maxHeartbeats 8000000 in
theorem take_ok (w : World) (mean : ExcName → Option Value) (mg mb : Str → Option Value) (dp un : Nat) (gd : Option (List Code)) (env : Env) (outer : List Env) (A₀ : Around) (base h₀ : Heap) (L : Addr) (m : Str → Option Value) (s : Shared)
    (rest : List (Addr × Obj)) (l : Addr) (n : Nat) (s0 s1 top : Int) (t0 t1 tt : Tok) (Q E : Value → Shared → Prop)
    (B : Below A₀ base outer h₀) (F : Fr h₀ L s.heap m) (X : (hd.heap_39 w.params).In h₀) (N : News h₀ L s.heap ((l, src s0 t0 s1 t1 n) :: rest)) (T : Top hd.view_39 (looseW hd.view_39 []) mean mg mb h₀) (hf : env.frame = some L) (hk : env.scope.kind = .function)
    (hap : ∀ p ∈ rest, p.1 ≠ l) (htop : 0 < top) (htop2 : top ≤ 256) (hdp : dp + 1 < recursionLimit) (h0 : 0 ≤ s1) (h1 : s1 < 2147483647)
    (ret : ∀ (d : Int) (t : Tok) (s0' : Int) (t0' : Tok) (s1' : Int) (t1' : Tok) (h' : Heap) (tk' : Nat), 0 ≤ d → d < top → 0 ≤ s1' → s1' < 2147483647 → Fr h₀ L h' m → News h₀ L h' ((l, src s0' t0' s1' t1' n) :: rest) → Q (.int d t) { s with heap := h', toks := tk' }) :
    wpAny (model PySem.Challenge.rw_nu0001_01.row.prog w) (top1 dp un gd env outer) (call (.ref 40) [.ref l, .int top tt]) Q E s := by
  revert X; k_fill; intro X
  refine wpAny_call ?_
  k_dflt (walk_at "m_enter")
  k_steps
  all_goals (refine' ret _ _ _ _ _ _ _ _ ?pa ?pb ?pc ?pd ?F ?N; (case F => k_asm); (case N => k_asm); (case pa => exact fmod_lo _ htop); (case pb => exact fmod_hi _ htop); (case pc => first | exact h0 | exact fmod_lo _ (by decide)); (case pd => first | exact h1 | exact fmod_hi _ (by decide)))

theorem take_u (w : World) (mean : ExcName → Option Value) (mg mb : Str → Option Value) (dp un : Nat) (gd : Option (List Code)) (env : Env) (outer : List Env) (A₀ : Around) (base h₀ : Heap) (L : Addr) (m : Str → Option Value) (s : Shared)
    (news : List (Addr × Obj)) (g : Obj → List (Addr × Obj)) (l : Addr) (n : Nat) (s0 s1 top : Int) (t0 t1 tt : Tok) (Q E : Value → Shared → Prop)
    (B : Below A₀ base outer h₀) (F : Fr h₀ L s.heap m) (X : (hd.heap_39 w.params).In h₀) (N : News h₀ L s.heap news) (U : UpdF l (src s0 t0 s1 t1 n) news g) (T : Top hd.view_39 (looseW hd.view_39 []) mean mg mb h₀) (hf : env.frame = some L) (hk : env.scope.kind = .function)
    (htop : 0 < top) (htop2 : top ≤ 256) (hdp : dp + 1 < recursionLimit) (h0 : 0 ≤ s1) (h1 : s1 < 2147483647)
    (ret : ∀ (d : Int) (t : Tok) (s0' : Int) (t0' : Tok) (s1' : Int) (t1' : Tok) (h' : Heap) (tk' : Nat), 0 ≤ d → d < top → 0 ≤ s1' → s1' < 2147483647 → Fr h₀ L h' m → News h₀ L h' (g (src s0' t0' s1' t1' n)) → Q (.int d t) { s with heap := h', toks := tk' }) :
    wpAny (model PySem.Challenge.rw_nu0001_01.row.prog w) (top1 dp un gd env outer) (call (.ref 40) [.ref l, .int top tt]) Q E s := by
  obtain ⟨pre, post, rfl, hg, ha, hb⟩ := U.split
  refine take_ok w mean mg mb dp un gd env outer A₀ base h₀ L m s (pre ++ post) l n s0 s1 top t0 t1 tt Q E B F X (fun p hp => N p ?_) T hf hk (fun p hp => ?_) htop htop2 hdp h0 h1 (fun d t s0' t0' s1' t1' h' tk' p1 p2 p3 p4 F' N' => ret d t s0' t0' s1' t1' h' tk' p1 p2 p3 p4 F' ?_)
  · rcases List.mem_cons.mp hp with rfl | hp
    · exact List.mem_append_right _ (List.mem_cons_self ..)
    · rcases List.mem_append.mp hp with hp | hp
      · exact List.mem_append_left _ hp
      · exact List.mem_append_right _ (List.mem_cons_of_mem _ hp)
  · rcases List.mem_append.mp hp with hp | hp
    · exact ha p hp
    · exact hb p hp
  · rw [hg]
    intro p hp
    refine N' p ?_
    rcases List.mem_append.mp hp with hp | hp
    · exact List.mem_cons_of_mem _ (List.mem_append_left _ hp)
    · rcases List.mem_cons.mp hp with rfl | hp
      · exact List.mem_cons_self ..
      · exact List.mem_cons_of_mem _ (List.mem_append_right _ hp)
end TakePart
end Mine

/-! part: One -/
namespace Mine
section OnePart
local macro_rules | `(tactic| k_all) => `(tactic| assumption)
local macro_rules | `(tactic| k_mem) => `(tactic| assumption)
theorem getD_mem {ns : List Int} {d : Int} (h0 : 0 ≤ d) (h1 : d < (ns.length : Nat)) : ns.getD d.toNat 0 ∈ ns := by
  have hl : d.toNat < ns.length := by omega
  have e : ns.getD d.toNat 0 = ns[d.toNat] := by simp [List.getD, hl]
  rw [e]
  exact List.getElem_mem hl
theorem my_len {prog : Program} {w : World} {A : Around} {E : Value → Shared → Prop} {s : Shared} {h₀ : Heap} {L D : Addr} {news : List (Addr × Obj)} {vs : List Value} {ns : List Int} {c : Nat} {Q : Value → Shared → Prop} (N : News h₀ L s.heap news) (hm : (D, listOf vs.toArray c) ∈ news) (hi : IntsAre vs ns) (hl : ns.length ≤ 256)
    (h : Q (.int (ns.length : Nat) (s.toks + 1)) { s with toks := s.toks + 1 + 1 }) : wpAny (model prog w) A (call (.builtin "len") [.ref D]) Q E s :=
  len_ints_fit (News.isList N hm) hi (by omega) h
local macro_rules | `(tactic| walk_at "call builtin:len") => `(tactic| (k_here; (with_reducible show wpAny _ _ (call (Value.builtin "len") [Value.ref _]) _ _ _); k_dflt (refine' my_len ?k1 ?k2 ?k3 ?k4 ?_; (case k1 => k_asm); (case k2 => k_mem); (case k3 => assumption); (case k4 => assumption); k_whole)))
local macro_rules | `(tactic| walk_at "m_enter") => `(tactic| (refine' code_def ?k1 ?k2 ?k3 ?k4 ?k5 ?kA ?kF ?kK ?k6 ?k7 ?k8 ?k9 ?kB ?_ ?c2 ?c3 ?c4 ?c5; (case kA => exact rfl); (case kF => assumption); (case kK => assumption); (case k1 => k_asm); (case k2 => k_asm); (case k3 => k_asm); (case k4 => k_asm); (case k5 => k_asm); (case k6 => k_is); (case k7 => k_is); (case k8 => ktr_room); (case k9 => exact BindsTo.of_eq rfl); (case c5 => decide); (case kB => exact locs rfl); (case c2 => exact rfl); (case c3 => exact rfl); (case c4 => exact rfl); k_whole; intro g' L' h' FG' F' N' B' X' T'; (try dsimp only); (try k_fold)))
local macro_rules | `(tactic| walk_at "call ref") => `(tactic| (k_here; (with_reducible show wpAny _ _ (call (Value.ref 40) [Value.ref _, Value.int _ _]) _ _ _); k_dflt (refine' take_u _ _ _ _ _ _ _ _ _ _ _ _ _ _ _ _ _ _ _ _ _ _ _ _ _ _ _ ?kB ?kF ?kX ?kN ?kU ?kT ?kf ?kk ?kt ?ku ?kd ?k0 ?k1 ?_; (case kB => k_asm); (case kF => k_asm); (case kX => k_asm); (case kN => k_asm); (case kU => k_updF); (case kT => k_asm); (case kf => rfl); (case kk => first | rfl | assumption); (case kt => first | assumption | omega | (simp; omega)); (case ku => first | assumption | omega | (simp; omega)); (case kd => ktr_room); (case k0 => assumption); (case k1 => assumption); k_whole; intro d' t' s0' t0' s1' t1' h' tk' hd0' hd1' hs0' hs1' F' N'; (try dsimp only at N'))))

set_option maxRecDepth 100000 in
set_option maxHeartbeats 8000000 in
theorem one_ok (w : World) (mean : ExcName → Option Value) (mg mb : Str → Option Value) (dp un : Nat) (gd : Option (List Code)) (env : Env) (outer : List Env) (A₀ : Around) (base h₀ : Heap) (L : Addr) (m : Str → Option Value) (s : Shared)
    (rest : List (Addr × Obj)) (l b : Addr) (n k : Nat) (s0 s1 : Int) (t0 t1 : Tok) (vs : List Value) (ns : List Int) (Q E : Value → Shared → Prop)
    (B : Below A₀ base outer h₀) (F : Fr h₀ L s.heap m) (X : (hd.heap_39 w.params).In h₀) (N : News h₀ L s.heap ((l, src s0 t0 s1 t1 n) :: rest)) (T : Top hd.view_39 (looseW hd.view_39 []) mean mg mb h₀) (hf : env.frame = some L) (hk : env.scope.kind = .function)
    (hap : ∀ p ∈ rest, p.1 ≠ l) (hbm : (b, listOf vs.toArray k) ∈ rest) (hint : IntsAre vs ns) (hlen : 0 < ns.length) (hlen2 : ns.length ≤ 256) (hdp : dp + 2 < recursionLimit) (h0 : 0 ≤ s1) (h1 : s1 < 2147483647)
    (ret : ∀ (d : Int) (t : Tok) (s0' : Int) (t0' : Tok) (s1' : Int) (t1' : Tok) (h' : Heap) (tk' : Nat), d ∈ ns → 0 ≤ s1' → s1' < 2147483647 → Fr h₀ L h' m → News h₀ L h' ((l, src s0' t0' s1' t1' n) :: rest) → Q (.int d t) { s with heap := h', toks := tk' }) :
    wpAny (model PySem.Challenge.rw_nu0001_01.row.prog w) (top1 dp un gd env outer) (call (.ref 47) [.ref l, .ref b]) Q E s := by
  revert X; k_fill; intro X
  refine wpAny_call ?_
  k_dflt (walk_at "m_enter")
  k_steps
  all_goals (refine' ret _ _ _ _ _ _ _ _ ?pa ?pc ?pd ?F ?N; (case F => k_asm); (case N => k_asm); (case pa => exact getD_mem (by assumption) (by assumption)); (case pc => assumption); (case pd => assumption))

theorem one_u (w : World) (mean : ExcName → Option Value) (mg mb : Str → Option Value) (dp un : Nat) (gd : Option (List Code)) (env : Env) (outer : List Env) (A₀ : Around) (base h₀ : Heap) (L : Addr) (m : Str → Option Value) (s : Shared)
    (news : List (Addr × Obj)) (g : Obj → List (Addr × Obj)) (l b : Addr) (n k : Nat) (s0 s1 : Int) (t0 t1 : Tok) (vs : List Value) (ns : List Int) (Q E : Value → Shared → Prop)
    (B : Below A₀ base outer h₀) (F : Fr h₀ L s.heap m) (X : (hd.heap_39 w.params).In h₀) (N : News h₀ L s.heap news) (U : UpdF l (src s0 t0 s1 t1 n) news g) (T : Top hd.view_39 (looseW hd.view_39 []) mean mg mb h₀) (hf : env.frame = some L) (hk : env.scope.kind = .function)
    (hbm : (b, listOf vs.toArray k) ∈ news) (hne : b ≠ l) (hint : IntsAre vs ns) (hlen : 0 < ns.length) (hlen2 : ns.length ≤ 256) (hdp : dp + 2 < recursionLimit) (h0 : 0 ≤ s1) (h1 : s1 < 2147483647)
    (ret : ∀ (d : Int) (t : Tok) (s0' : Int) (t0' : Tok) (s1' : Int) (t1' : Tok) (h' : Heap) (tk' : Nat), d ∈ ns → 0 ≤ s1' → s1' < 2147483647 → Fr h₀ L h' m → News h₀ L h' (g (src s0' t0' s1' t1' n)) → Q (.int d t) { s with heap := h', toks := tk' }) :
    wpAny (model PySem.Challenge.rw_nu0001_01.row.prog w) (top1 dp un gd env outer) (call (.ref 47) [.ref l, .ref b]) Q E s := by
  obtain ⟨pre, post, rfl, hg, ha, hb⟩ := U.split
  refine one_ok w mean mg mb dp un gd env outer A₀ base h₀ L m s (pre ++ post) l b n k s0 s1 t0 t1 vs ns Q E B F X (fun p hp => N p ?_) T hf hk (fun p hp => ?_) ?_ hint hlen hlen2 hdp h0 h1 (fun d t s0' t0' s1' t1' h' tk' p1 p3 p4 F' N' => ret d t s0' t0' s1' t1' h' tk' p1 p3 p4 F' ?_)
  · rcases List.mem_cons.mp hp with rfl | hp
    · exact List.mem_append_right _ (List.mem_cons_self ..)
    · rcases List.mem_append.mp hp with hp | hp
      · exact List.mem_append_left _ hp
      · exact List.mem_append_right _ (List.mem_cons_of_mem _ hp)
  · rcases List.mem_append.mp hp with hp | hp
    · exact ha p hp
    · exact hb p hp
  · rcases List.mem_append.mp hbm with hp | hp
    · exact List.mem_append_left _ hp
    · rcases List.mem_cons.mp hp with hp | hp
      · exact absurd (congrArg Prod.fst hp) hne
      · exact List.mem_append_right _ hp
  · rw [hg]
    intro p hp
    refine N' p ?_
    rcases List.mem_append.mp hp with hp | hp
    · exact List.mem_cons_of_mem _ (List.mem_append_left _ hp)
    · rcases List.mem_cons.mp hp with rfl | hp
      · exact List.mem_cons_self ..
      · exact List.mem_cons_of_mem _ (List.mem_append_right _ hp)
end OnePart
end Mine

/-! part: Colour -/
namespace Mine
section ColourPart
theorem mem9 {d x y : Int} (h : d ∈ [0, 1, 2, 100, 128, 253, 255, x, y]) (hx : 0 ≤ x) (hx1 : x < 256) (hy : 0 ≤ y) (hy1 : y < 256) : 0 ≤ d ∧ d ≤ 255 := by
  simp only [List.mem_cons, List.not_mem_nil, or_false] at h
  omega
theorem mem4 {d a x : Int} (h : d ∈ [0, a, a.fdiv 3, x]) (ha : 0 ≤ a) (hx : 0 ≤ x) (hx1 : x < a + 1) : 0 ≤ d ∧ d ≤ a := by
  simp only [List.mem_cons, List.not_mem_nil, or_false] at h
  rw [Int.fdiv_eq_ediv_of_nonneg _ (by decide)] at h
  omega
theorem ne_of_allLt {d x : Addr} : ∀ {r : List (Addr × Obj)}, AllLt d r → @LE.le Nat _ d x → ∀ p ∈ r, p.1 ≠ x
  | [], _, _, _, hp => nomatch hp
  | q :: r, h, hx, p, hp => by
    rcases List.mem_cons.mp hp with rfl | hp
    · exact Nat.ne_of_lt (Nat.lt_of_lt_of_le h.1 hx)
    · exact ne_of_allLt h.2 hx p hp
local macro_rules | `(tactic| k_all) => `(tactic| first | assumption | (refine ne_of_allLt (by assumption) ?_; omega))
local macro_rules | `(tactic| k_mem) => `(tactic| assumption)
local macro_rules | `(tactic| walk_at "m_enterC") => `(tactic| (refine' code_defC ?k1 ?k2 ?k3 ?k4 ?k5 ?kA ?kF ?kK ?k6 ?k7 ?k8 ?k9 ?kB ?kD ?_ ?c2 ?c3 ?c4; (case kA => exact rfl); (case kF => assumption); (case kK => assumption); (case k1 => k_asm); (case k2 => k_asm); (case k3 => k_asm); (case k4 => k_asm); (case k5 => k_asm); (case k6 => k_is); (case k7 => k_is); (case k8 => ktr_room); (case k9 => exact BindsTo.of_eq rfl); (case kB => exact rfl); (case kD => decide +kernel); (case c2 => exact rfl); (case c3 => exact rfl); (case c4 => exact rfl); k_whole; intro g' L' h' tk' cells' FG' F' N' Y' B' X' T' l1; (try k_lt l1); (have l1r := l1.2); k_cells Y'; (try simp only [List.cons_append, List.nil_append] at N'); (try dsimp only); (try k_fold)))
local macro_rules | `(tactic| walk_at "call ref") => `(tactic| (k_here; (with_reducible show wpAny _ _ (call (Value.ref 40) [Value.ref _, Value.int _ _]) _ _ _); k_dflt (refine' take_u _ _ _ _ _ _ _ _ _ _ _ _ _ _ _ _ _ _ _ _ _ _ _ _ _ _ _ ?kB ?kF ?kX ?kN ?kU ?kT ?kf ?kk ?kt ?ku ?kd ?k0 ?k1 ?_; (case kB => k_asm); (case kF => k_asm); (case kX => k_asm); (case kN => k_asm); (case kU => k_updF); (case kT => k_asm); (case kf => rfl); (case kk => first | rfl | assumption); (case kt => first | assumption | omega | (simp; omega)); (case ku => first | assumption | omega | (simp; omega)); (case kd => ktr_room); (case k0 => assumption); (case k1 => assumption); k_whole; intro d' t' s0' t0' s1' t1' h' tk' hd0' hd1' hs0' hs1' F' N'; (try dsimp only at N'); (try k_sweep))))
local macro_rules | `(tactic| walk_at "call ref") => `(tactic| (k_here; (with_reducible show wpAny _ _ (call (Value.ref 47) [Value.ref _, Value.ref _]) _ _ _); k_dflt (refine' one_u _ _ _ _ _ _ _ _ _ _ _ _ _ _ _ _ _ _ _ _ _ _ _ _ _ _ _ _ _ ?kB ?kF ?kX ?kN ?kU ?kT ?kf ?kk ?kb ?kn ?ki ?kt ?ku ?kd ?k0 ?k1 ?_; (case kB => k_asm); (case kF => k_asm); (case kX => k_asm); (case kN => k_asm); (case kU => k_updF); (case kT => k_asm); (case kf => rfl); (case kk => first | rfl | assumption); (case kb => k_mem); (case kn => k_ne); (case ki => first | exact (IntsAre.cons _ _ (IntsAre.cons _ _ (IntsAre.cons _ _ (IntsAre.cons _ _ IntsAre.nil)))) | exact (IntsAre.cons _ _ (IntsAre.cons _ _ (IntsAre.cons _ _ (IntsAre.cons _ _ (IntsAre.cons _ _ (IntsAre.cons _ _ (IntsAre.cons _ _ (IntsAre.cons _ _ (IntsAre.cons _ _ IntsAre.nil)))))))))); (case kt => exact Nat.le_of_ble_eq_true rfl); (case ku => exact Nat.le_of_ble_eq_true rfl); (case kd => ktr_room); (case k0 => assumption); (case k1 => assumption); k_whole; intro d' t' s0' t0' s1' t1' h' tk' hd' hs0' hs1' F' N'; (first | (replace hd' := mem9 hd' (by assumption) (by assumption) (by assumption) (by assumption)) | (replace hd' := mem4 hd' (by assumption) (by assumption) (by assumption))); (obtain ⟨hd0', hd1'⟩ := hd'); (try dsimp only at N'); (try k_sweep))))

theorem lt_all {d l : Addr} {o : Obj} {r : List (Addr × Obj)} (h1 : @LT.lt Nat _ l d) (h2 : AllLt d r) : ∀ q ∈ (l, o) :: r, q.1 < d := by
  have key : ∀ {r : List (Addr × Obj)}, AllLt d r → ∀ q ∈ r, q.1 < d := by
    intro r
    induction r with
    | nil => intro _ q hq; cases hq
    | cons p r ih =>
      intro h q hq
      rcases List.mem_cons.mp hq with rfl | hq
      · exact h.1
      · exact ih h.2 q hq
  intro q hq
  rcases List.mem_cons.mp hq with rfl | hq
  · exact h1
  · exact key h2 q hq
theorem news_pick {h₀ h : Heap} {L : Addr} {a b c d e f : Addr × Obj} {r : List (Addr × Obj)} (N : News h₀ L h (a :: b :: c :: d :: e :: f :: r)) : News h₀ L h (a :: f :: r) := fun p hp => N p (by
  rcases List.mem_cons.mp hp with rfl | hp
  · exact List.mem_cons_self ..
  · exact List.mem_cons_of_mem _ (List.mem_cons_of_mem _ (List.mem_cons_of_mem _ (List.mem_cons_of_mem _ (List.mem_cons_of_mem _ hp)))))
theorem compEnd_tl {h₀ : Heap} {L I C D : Addr} {m : Str → Option Value} {s₁ : Shared} {oI oC oD : Obj} {S : List (Addr × Obj) → Prop} {rest : Value → List (Addr × Obj) → Prop} {y : Value} {h' : Heap} {tk : Nat} {p0 : Addr × Obj} {tl : List (Addr × Obj)}
    (F : Fr h₀ L h' m) (N : News h₀ L h' (p0 :: (I, oI) :: (C, oC) :: (D, oD) :: tl)) (off : LCg.Off3 I C D tl) (hS : S tl) (r : rest y tl) :
    LCg.CompEnd h₀ L m s₁ I oI C oC D oD S rest y { s₁ with heap := h', toks := tk } := LCg.CompEnd.intro F N tl (fun _ hp => List.mem_cons_of_mem _ hp) off hS r
local macro_rules | `(tactic| walk_at "CompSrc") => `(tactic| (k_here; k_dflt (refine LCg.CompSrc.range (by rfl) (by k_asm) (by k_asm) (by assumption) (by first | decide | rfl) (by first | rfl | decide) (by first | size_fits | exact Nat.le_of_ble_eq_true rfl) ?_; intro g'; lcg_lit)))
local macro_rules | `(tactic| walk_at "CompEnd") => `(tactic| (refine compEnd_tl (by k_asm) (by k_asm) (by first | assumption | (simp only [LCg.Off3, and_true]; assumption)) (by lcg_src) ?_))

set_option maxRecDepth 100000 in
set_option maxHeartbeats 8000000 in
theorem colour_ok (w : World) (mean : ExcName → Option Value) (mg mb : Str → Option Value) (dp un : Nat) (gd : Option (List Code)) (env : Env) (outer : List Env) (A₀ : Around) (base h₀ : Heap) (L : Addr) (m : Str → Option Value) (s : Shared)
    (rest : List (Addr × Obj)) (l : Addr) (n : Nat) (s0 s1 : Int) (t0 t1 : Tok) (Q E : Value → Shared → Prop)
    (B : Below A₀ base outer h₀) (F : Fr h₀ L s.heap m) (X : (hd.heap_39 w.params).In h₀) (N : News h₀ L s.heap ((l, src s0 t0 s1 t1 n) :: rest)) (T : Top hd.view_39 (looseW hd.view_39 []) mean mg mb h₀) (hf : env.frame = some L) (hk : env.scope.kind = .function)
    (hap : ∀ p ∈ rest, p.1 ≠ l) (hdp : dp + 4 < recursionLimit) (h0 : 0 ≤ s1) (h1 : s1 < 2147483647)
    (ret : ∀ (r : Addr) (c : Nat) (p0 p1 p2 al : Int) (u0 u1 u2 u3 : Tok) (s0' : Int) (t0' : Tok) (s1' : Int) (t1' : Tok) (h' : Heap) (tk' : Nat), 0 ≤ p0 → p0 ≤ al → 0 ≤ p1 → p1 ≤ al → 0 ≤ p2 → p2 ≤ al → 0 ≤ al → al ≤ 255 → 0 ≤ s1' → s1' < 2147483647 → (∀ q ∈ (l, src s0' t0' s1' t1' n) :: rest, q.1 < r) → Fr h₀ L h' m →
      News h₀ L h' ((r, { cls := .type "tuple", data := .seq [Value.int p0 u0, Value.int p1 u1, Value.int p2 u2, Value.int al u3].toArray c }) :: (l, src s0' t0' s1' t1' n) :: rest) → Q (.ref r) { s with heap := h', toks := tk' }) :
    wpAny (model PySem.Challenge.rw_nu0001_01.row.prog w) (top1 dp un gd env outer) (call (.ref 52) [.ref l]) Q E s := by
  revert X; k_fill; intro X
  refine wpAny_call ?_
  k_dflt (walk_at "m_enterC")
  k_steps
  all_goals (refine' ret _ _ _ _ _ _ _ _ _ _ _ _ _ _ _ _ ?b1 ?b2 ?b3 ?b4 ?b5 ?b6 ?b7 ?b8 ?s1 ?s2 ?lt ?F ?N; (case F => k_asm); (case N => exact news_pick (by k_asm)); (case lt => ((rename _ < _ ∧ _ < _ ∧ _ < _ ∧ _ < _ ∧ _ < _ ∧ AllLt _ _ => hl); exact lt_all hl.2.2.2.2.1 hl.2.2.2.2.2)); (case b1 => assumption); (case b2 => assumption); (case b3 => assumption); (case b4 => assumption); (case b5 => assumption); (case b6 => assumption); (case b7 => assumption); (case b8 => assumption); (case s1 => assumption); (case s2 => assumption))

abbrev tup (p0 : Int) (u0 : Tok) (p1 : Int) (u1 : Tok) (p2 : Int) (u2 : Tok) (p3 : Int) (u3 : Tok) (c : Nat) : Obj := { cls := .type "tuple", data := .seq [Value.int p0 u0, Value.int p1 u1, Value.int p2 u2, Value.int p3 u3].toArray c }
/-- a colour: no part above its alpha -/
structure Col (p0 p1 p2 al : Int) : Prop where
  l0 : 0 ≤ p0
  h0 : p0 ≤ al
  l1 : 0 ≤ p1
  h1 : p1 ≤ al
  l2 : 0 ≤ p2
  h2 : p2 ≤ al
  l3 : 0 ≤ al
  h3 : al ≤ 255
theorem colour_u (w : World) (mean : ExcName → Option Value) (mg mb : Str → Option Value) (dp un : Nat) (gd : Option (List Code)) (env : Env) (outer : List Env) (A₀ : Around) (base h₀ : Heap) (L : Addr) (m : Str → Option Value) (s : Shared)
    (news : List (Addr × Obj)) (g : Obj → List (Addr × Obj)) (l : Addr) (n : Nat) (s0 s1 : Int) (t0 t1 : Tok) (Q E : Value → Shared → Prop)
    (B : Below A₀ base outer h₀) (F : Fr h₀ L s.heap m) (X : (hd.heap_39 w.params).In h₀) (N : News h₀ L s.heap news) (U : UpdF l (src s0 t0 s1 t1 n) news g) (T : Top hd.view_39 (looseW hd.view_39 []) mean mg mb h₀) (hf : env.frame = some L) (hk : env.scope.kind = .function)
    (hdp : dp + 4 < recursionLimit) (h0 : 0 ≤ s1) (h1 : s1 < 2147483647)
    (ret : ∀ (r : Addr) (c : Nat) (p0 p1 p2 al : Int) (u0 u1 u2 u3 : Tok) (s0' : Int) (t0' : Tok) (s1' : Int) (t1' : Tok) (h' : Heap) (tk' : Nat), Col p0 p1 p2 al → 0 ≤ s1' → s1' < 2147483647 → (∀ q ∈ g (src s0' t0' s1' t1' n), q.1 < r) → Fr h₀ L h' m →
      News h₀ L h' ((r, tup p0 u0 p1 u1 p2 u2 al u3 c) :: g (src s0' t0' s1' t1' n)) → Q (.ref r) { s with heap := h', toks := tk' }) :
    wpAny (model PySem.Challenge.rw_nu0001_01.row.prog w) (top1 dp un gd env outer) (call (.ref 52) [.ref l]) Q E s := by
  obtain ⟨pre, post, rfl, hg, ha, hb⟩ := U.split
  have perm : ∀ (o : Obj) (p : Addr × Obj), p ∈ pre ++ (l, o) :: post → p ∈ (l, o) :: (pre ++ post) := by
    intro o p hp
    rcases List.mem_append.mp hp with hp | hp
    · exact List.mem_cons_of_mem _ (List.mem_append_left _ hp)
    · rcases List.mem_cons.mp hp with rfl | hp
      · exact List.mem_cons_self ..
      · exact List.mem_cons_of_mem _ (List.mem_append_right _ hp)
  refine colour_ok w mean mg mb dp un gd env outer A₀ base h₀ L m s (pre ++ post) l n s0 s1 t0 t1 Q E B F X (fun p hp => N p ?_) T hf hk (fun p hp => ?_) hdp h0 h1 (fun r c p0 p1 p2 al u0 u1 u2 u3 s0' t0' s1' t1' h' tk' b0 b1 b2 b3 b4 b5 b6 b7 k0 k1 lt F' N' => ret r c p0 p1 p2 al u0 u1 u2 u3 s0' t0' s1' t1' h' tk' ⟨b0, b1, b2, b3, b4, b5, b6, b7⟩ k0 k1 (fun q hq => ?_) F' ?_)
  · rcases List.mem_cons.mp hp with rfl | hp
    · exact List.mem_append_right _ (List.mem_cons_self ..)
    · rcases List.mem_append.mp hp with hp | hp
      · exact List.mem_append_left _ hp
      · exact List.mem_append_right _ (List.mem_cons_of_mem _ hp)
  · rcases List.mem_append.mp hp with hp | hp
    · exact ha p hp
    · exact hb p hp
  · rw [hg] at hq
    exact lt q (perm _ _ hq)
  · rw [hg]
    intro p hp
    refine N' p ?_
    rcases List.mem_cons.mp hp with rfl | hp
    · exact List.mem_cons_self ..
    · exact List.mem_cons_of_mem _ (perm _ _ hp)
end ColourPart
end Mine

/-! part: ZipTup -/
namespace Mine
section ZipTupPart
local macro_rules | `(tactic| walk_at "pad ZipTup 0") => `(tactic| skip)
local macro_rules | `(tactic| walk_at "pad ZipTup 1") => `(tactic| skip)
local macro_rules | `(tactic| walk_at "pad ZipTup 2") => `(tactic| skip)
local macro_rules | `(tactic| walk_at "pad ZipTup 3") => `(tactic| skip)
local macro_rules | `(tactic| walk_at "pad ZipTup 4") => `(tactic| skip)
local macro_rules | `(tactic| walk_at "pad ZipTup 5") => `(tactic| skip)
section
variable {prog : Program} {w : World} {A : Around} {E : Value → Shared → Prop} {s : Shared}

theorem tupIter_ext {h h' : Heap} {a b t : Addr} {i : Nat} (x : IsTupIter h a t i) (hs : Heap.ExtBut b h h') (hab : a ≠ b) : IsTupIter h' a t i :=
  let ⟨o, ho, r⟩ := x; ⟨o, hs a o hab ho, r⟩

/-- one item drawn from a tuple's iterator -/
theorem nextOf_tup {it t : Addr} {i : Nat} {items : Array Value} {x : Value} {Q : Value → Shared → Prop} (hit : IsTupIter s.heap it t i) (ht : IsTup s.heap t items) (hx : items[i]? = some x)
    (hQ : ∀ h', IsTupIter h' it t (i + 1) → Heap.SameBut it s.heap h' → Q x { s with heap := h' }) :
    wpAny (model prog w) A (Builtin.SmallTypes.nextOf (.ref it)) Q E s := by
  obtain ⟨oi, hoi, hci, hdi⟩ := id hit
  obtain ⟨ot, hot, _, nt, hdt⟩ := ht
  unfold Builtin.SmallTypes.nextOf
  refine wpAny_bind (wpAny_callSpecial?_slot (name := Str.ofString "__next__") hit.typeIs slot_tupleiter_next
    (wpAny_call_entry slot_tupleiter_next hit.typeIs entry_tupleiter_next ?_ (args_tupleiter_next _)))
  show wpAny _ _ (field (.ref it) 0 >>= _) _ _ s
  refine wpAny_bind (wpAny_field hoi hdi (x := .ref t) rfl ?_)
  show wpAny _ _ (if (Value.ref t == Value.none) = true then _ else _) _ _ s
  rw [if_neg (show ¬ ((Value.ref t == Value.none) = true) from Bool.false_ne_true)]
  show wpAny _ _ (field (.ref it) 1 >>= _) _ _ s
  refine wpAny_bind (wpAny_field hoi hdi (x := .int i 0) rfl ?_)
  show wpAny _ _ (seqItems? (.ref t) >>= _) _ _ s
  refine wpAny_bind (wpAny_seqItems hot hdt ?_)
  simp only [Int.toNat_natCast, hx]
  refine wpAny_bind (wpAny_setField hoi hdi (by simp) (wpAny_pure ⟨x, rfl, wpAny_pure (hQ _ ?_ (Heap.SameBut.update ..))⟩))
  exact ⟨_, Heap.get?_update_self _ hoi (Obj.isFreed_of_fields (Obj.data_mapFields hdi _)), (Obj.cls_mapFields ..).trans hci, by
    rw [Obj.data_mapFields hdi]; simp [rawInt]⟩

/-- a tuple's iterator is spent -/
theorem nextOf_tup_end {it t : Addr} {i : Nat} {items : Array Value} {Q : Value → Shared → Prop} (hh : A.handled = none) (hit : IsTupIter s.heap it t i) (ht : IsTup s.heap t items) (hx : items[i]? = none)
    (hE : ∀ h' e, Heap.ExtBut it s.heap h' → (∃ o, h'.get? e = some o ∧ o.cls = .type "StopIteration") → E (.ref e) { s with heap := h' }) :
    wpAny (model prog w) A (Builtin.SmallTypes.nextOf (.ref it)) Q E s := by
  obtain ⟨oi, hoi, hci, hdi⟩ := id hit
  obtain ⟨ot, hot, _, nt, hdt⟩ := ht
  unfold Builtin.SmallTypes.nextOf
  refine wpAny_bind (wpAny_callSpecial?_slot (name := Str.ofString "__next__") hit.typeIs slot_tupleiter_next
    (wpAny_call_entry slot_tupleiter_next hit.typeIs entry_tupleiter_next ?_ (args_tupleiter_next _)))
  show wpAny _ _ (field (.ref it) 0 >>= _) _ _ s
  refine wpAny_bind (wpAny_field hoi hdi (x := .ref t) rfl ?_)
  show wpAny _ _ (if (Value.ref t == Value.none) = true then _ else _) _ _ s
  rw [if_neg (show ¬ ((Value.ref t == Value.none) = true) from Bool.false_ne_true)]
  show wpAny _ _ (field (.ref it) 1 >>= _) _ _ s
  refine wpAny_bind (wpAny_field hoi hdi (x := .int i 0) rfl ?_)
  show wpAny _ _ (seqItems? (.ref t) >>= _) _ _ s
  refine wpAny_bind (wpAny_seqItems hot hdt ?_)
  simp only [Int.toNat_natCast, hx]
  refine wpAny_bind (wpAny_rule (wpAny_bind (wpAny_setField hoi hdi (by simp) ?_)))
  show wpAny _ _ (newExc (.type "StopIteration") [] >>= _) _ _ _
  refine wpAny_bind ?_
  simp only [newExc, newTuple]
  refine wpAny_bind (wpAny_newObj_type ?_ (by size_fits))
  refine wpAny_bind (m := firstArgMember _ _) (wpAny_of_eq (a := Value.none) (by first | rfl | (simp only [firstArgMember]; rfl)) ?_)
  refine wpAny_newObj_type ?_ (by size_fits)
  simp only [raiseNew]
  refine wpAny_bind (wpAny_handled ?_)
  first | rw [show A.in1.handled = none from hh] | rw [hh]
  refine wpAny_bind (wpAny_pure (wpAny_throw ?_))
  exact hE _ _ (((Heap.SameBut.update ..).extBut.push _).push _) ⟨_, Heap.get?_push_size _ rfl, rfl⟩

/-- a zip of two tuples that has given k pairs -/
structure ZAt (h : Heap) (z TI TO i1 i2 t1 t2 : Addr) (xs ys : Array Value) (k : Nat) : Prop where
  hz : IsZip h z TI TO .none
  hTI : IsPair h TI (.ref i1) (.ref i2)
  hTO : ∃ a b, IsPair h TO a b
  h1 : IsTupIter h i1 t1 k
  h2 : IsTupIter h i2 t2 k
  ht1 : IsTup h t1 xs
  ht2 : IsTup h t2 ys

theorem zipt_item {z TI TO i1 i2 t1 t2 : Addr} {k : Nat} {xs ys : Array Value} {x y : Value} {Q : Value → Shared → Prop} (D : ZipApart z TI TO i1 i2 t1 t2) (Z : ZAt s.heap z TI TO i1 i2 t1 t2 xs ys k) (hx : xs[k]? = some x) (hy : ys[k]? = some y)
    (hQ : ∀ h', IsZip h' z TI TO (rawInt s.heap.objs.size) → IsPair h' TO x y → IsTupIter h' i1 t1 (k + 1) → IsTupIter h' i2 t2 (k + 1) → IsPair h' s.heap.objs.size x y →
      (∀ c o, c ≠ z → c ≠ TO → c ≠ i1 → c ≠ i2 → s.heap.get? c = some o → h'.get? c = some o) → Q (.ref s.heap.objs.size) { s with heap := h' }) :
    wpAny (model prog w) A (Builtin.«zip.__next__» ⟨[.ref z], []⟩) (fun fin s' => ∃ v, fin = .done (.ret v) ∧ Q v s') E s := by
  obtain ⟨hz, hTI, ⟨a, b, hTO⟩, h1, h2, ht1, ht2⟩ := Z
  show wpAny _ _ (field (.ref z) 2 >>= _) _ _ _
  refine wpAny_bind (wpAny_field hz rfl (x := .bool false) rfl ?_)
  show wpAny _ _ (field (.ref z) 3 >>= _) _ _ _
  refine wpAny_bind (wpAny_field hz rfl (x := .ref TI) rfl ?_)
  refine wpAny_bind (wpAny_seqItems hTI rfl ?_)
  show wpAny _ _ (Builtin.SmallTypes.ownedTupleIsFree (.ref z) >>= _) _ _ _
  refine wpAny_bind ?_
  unfold Builtin.SmallTypes.ownedTupleIsFree
  refine wpAny_bind (wpAny_field hz rfl (x := .none) rfl (wpAny_pure ?_))
  simp only [if_true]
  refine wpAny_bind (wpAny_rule ?_)
  refine wpAny_bind (wpAny_field hz rfl (x := .ref TO) rfl ?_)
  refine wpAny_bind (wpAny_setField_rec hz (by simp) fun g₁ hz₁ e₁ => ?_)
  replace hz₁ : IsZip g₁ z TI TO .ellipsis := hz₁
  have k₁ := e₁.extBut
  refine wpAny_bind ?_
  simp only [List.zipIdx_cons, List.zipIdx_nil, List.forIn_cons, List.forIn_nil]
  refine wpAny_bind (wpAny_bind (wpAny_onRaise ?_))
  show wpAny _ _ (Builtin.SmallTypes.nextOf (.ref i1) >>= _) _ _ _
  refine wpAny_bind (nextOf_tup (tupIter_ext h1 k₁ D.i1z) (ht1.extBut k₁ D.l1z) hx fun g₂ n1 e₂ => wpAny_pure ?_)
  have k₂ := e₂.extBut
  have p₂ : IsPair g₂ TO a b := k₂ _ _ D.TOi1 (k₁ _ _ D.TOz hTO)
  refine wpAny_bind (wpAny_seqItems p₂ rfl ?_)
  refine wpAny_bind (wpAny_updateSeq_pair p₂ fun g₃ p₃ e₃ => ?_)
  replace p₃ : IsPair g₃ TO x b := p₃
  have k₃ := e₃.extBut
  refine wpAny_bind (wpAny_letGo (wpAny_pure ?_))
  refine wpAny_bind (wpAny_bind (wpAny_onRaise ?_))
  show wpAny _ _ (Builtin.SmallTypes.nextOf (.ref i2) >>= _) _ _ _
  refine wpAny_bind (nextOf_tup (tupIter_ext (tupIter_ext (tupIter_ext h2 k₁ D.i2z) k₂ D.i12.symm) k₃ D.TOi2.symm) (((ht2.extBut k₁ D.l2z).extBut k₂ D.l2i1).extBut k₃ D.l2TO) hy fun g₄ n2 e₄ => wpAny_pure ?_)
  have k₄ := e₄.extBut
  have p₄ : IsPair g₄ TO x b := k₄ _ _ D.TOi2 p₃
  refine wpAny_bind (wpAny_seqItems p₄ rfl ?_)
  refine wpAny_bind (wpAny_updateSeq_pair p₄ fun g₅ p₅ e₅ => ?_)
  replace p₅ : IsPair g₅ TO x y := p₅
  have k₅ := e₅.extBut
  refine wpAny_bind (wpAny_letGo (wpAny_pure (wpAny_pure ?_)))
  refine wpAny_bind (wpAny_seqItems p₅ rfl ?_)
  refine wpAny_bind (wpAny_newTuple ?_)
  have size₅ : g₅.objs.size = s.heap.objs.size := by rw [e₅.1, e₄.1, e₃.1, e₂.1, e₁.1]
  have z₅ : IsZip g₅ z TI TO .ellipsis := k₅ _ _ D.TOz.symm (k₄ _ _ D.i2z.symm (k₃ _ _ D.TOz.symm (k₂ _ _ D.i1z.symm hz₁)))
  have all₅ : ∀ c o, c ≠ z → c ≠ TO → c ≠ i1 → c ≠ i2 → s.heap.get? c = some o → g₅.get? c = some o := fun c o c1 c2 c3 c4 e => k₅ _ _ c2 (k₄ _ _ c4 (k₃ _ _ c2 (k₂ _ _ c3 (k₁ _ _ c1 e))))
  have m1 : IsTupIter g₅ i1 t1 (k + 1) := tupIter_ext (tupIter_ext (tupIter_ext n1 k₃ D.TOi1.symm) k₄ D.i12) k₅ D.TOi1.symm
  have m2 : IsTupIter g₅ i2 t2 (k + 1) := tupIter_ext n2 k₅ D.TOi2.symm
  have zlt : z < g₅.objs.size := Heap.lt_size z₅
  show wpAny _ _ (Builtin.SmallTypes.ownedTupleHandOut (.ref z) (.ref g₅.objs.size) >>= _) _ _ _
  refine wpAny_bind ?_
  unfold Builtin.SmallTypes.ownedTupleHandOut
  have z₆ : IsZip (g₅.push { cls := .type "tuple", data := .seq #[x, y] }) z TI TO .ellipsis := Heap.get?_push_of_some _ z₅
  refine wpAny_bind (wpAny_setField_rec z₆ (by simp) fun g₇ z₇ e₇ => ?_)
  replace z₇ : IsZip g₇ z TI TO (rawInt g₅.objs.size) := z₇
  refine wpAny_setField_rec z₇ (by simp) fun g₈ z₈ e₈ => ?_
  replace z₈ : IsZip g₈ z TI TO (rawInt g₅.objs.size) := z₈
  have up : ∀ c o, c ≠ z → g₅.get? c = some o → g₈.get? c = some o := fun c o c1 e => e₈.extBut _ _ c1 (e₇.extBut _ _ c1 (Heap.get?_push_of_some _ e))
  have p₈ : IsPair g₈ g₅.objs.size x y := e₈.extBut _ _ (Nat.ne_of_gt zlt) (e₇.extBut _ _ (Nat.ne_of_gt zlt) (Heap.get?_push_size _ rfl))
  rw [size₅] at z₈ p₈
  refine wpAny_pure ⟨_, rfl, ?_⟩
  show Q (.ref g₅.objs.size) _
  rw [size₅]
  obtain ⟨o1, ho1, r1⟩ := m1
  obtain ⟨o2, ho2, r2⟩ := m2
  exact hQ g₈ z₈ (up _ _ D.TOz p₅) ⟨o1, up _ _ D.i1z ho1, r1⟩ ⟨o2, up _ _ D.i2z ho2, r2⟩ p₈ fun c o c1 c2 c3 c4 e => up c o c1 (all₅ c o c1 c2 c3 c4 e)

theorem zipt_end {z TI TO i1 i2 t1 t2 : Addr} {k : Nat} {xs ys : Array Value} {Q : Fin → Shared → Prop} (hh : A.handled = none) (D : ZipApart z TI TO i1 i2 t1 t2) (Z : ZAt s.heap z TI TO i1 i2 t1 t2 xs ys k) (hend : xs[k]? = none)
    (hE : ∀ h' e, (∀ c o, c ≠ z → c ≠ TO → c ≠ i1 → c ≠ i2 → s.heap.get? c = some o → h'.get? c = some o) → (∃ o, h'.get? e = some o ∧ o.cls = .type "StopIteration") → E (.ref e) { s with heap := h' }) :
    wpAny (model prog w) A (Builtin.«zip.__next__» ⟨[.ref z], []⟩) Q E s := by
  obtain ⟨hz, hTI, ⟨a, b, hTO⟩, h1, h2, ht1, ht2⟩ := Z
  show wpAny _ _ (field (.ref z) 2 >>= _) _ _ _
  refine wpAny_bind (wpAny_field hz rfl (x := .bool false) rfl ?_)
  show wpAny _ _ (field (.ref z) 3 >>= _) _ _ _
  refine wpAny_bind (wpAny_field hz rfl (x := .ref TI) rfl ?_)
  refine wpAny_bind (wpAny_seqItems hTI rfl ?_)
  show wpAny _ _ (Builtin.SmallTypes.ownedTupleIsFree (.ref z) >>= _) _ _ _
  refine wpAny_bind ?_
  unfold Builtin.SmallTypes.ownedTupleIsFree
  refine wpAny_bind (wpAny_field hz rfl (x := .none) rfl (wpAny_pure ?_))
  simp only [if_true]
  refine wpAny_bind (wpAny_rule ?_)
  refine wpAny_bind (wpAny_field hz rfl (x := .ref TO) rfl ?_)
  refine wpAny_bind (wpAny_setField_rec hz (by simp) fun g₁ hz₁ e₁ => ?_)
  replace hz₁ : IsZip g₁ z TI TO .ellipsis := hz₁
  have k₁ := e₁.extBut
  refine wpAny_bind ?_
  simp only [List.zipIdx_cons, List.zipIdx_nil, List.forIn_cons, List.forIn_nil]
  refine wpAny_bind (wpAny_bind (wpAny_onRaise ?_))
  show wpAny _ _ (Builtin.SmallTypes.nextOf (.ref i1) >>= _) _ _ _
  refine wpAny_bind (nextOf_tup_end hh (tupIter_ext h1 k₁ D.i1z) (ht1.extBut k₁ D.l1z) hend fun g₂ e k₂ he => ?_)
  obtain ⟨oe, hoe, hce⟩ := he
  have hz₂ : IsZip g₂ z TI TO .ellipsis := k₂ _ _ D.i1z.symm hz₁
  have hez : e ≠ z := fun x => by subst x; rw [hz₂] at hoe; cases hoe; simp at hce
  refine wpAny_setField_rec hz₂ (by simp) fun g₃ _ e₃ => hE g₃ e (fun c o c1 _ c3 _ x => e₃.extBut _ _ c1 (k₂ _ _ c3 (k₁ _ _ c1 x))) ⟨oe, e₃.extBut _ _ hez hoe, hce⟩

theorem next_zipt {z TI TO i1 i2 t1 t2 : Addr} {k : Nat} {xs ys : Array Value} {x y : Value} {Q : Option Value → Shared → Prop} (D : ZipApart z TI TO i1 i2 t1 t2) (Z : ZAt s.heap z TI TO i1 i2 t1 t2 xs ys k) (hx : xs[k]? = some x) (hy : ys[k]? = some y)
    (hQ : ∀ h', IsZip h' z TI TO (rawInt s.heap.objs.size) → IsPair h' TO x y → IsTupIter h' i1 t1 (k + 1) → IsTupIter h' i2 t2 (k + 1) → IsPair h' s.heap.objs.size x y →
      (∀ c o, c ≠ z → c ≠ TO → c ≠ i1 → c ≠ i2 → s.heap.get? c = some o → h'.get? c = some o) → Q (some (.ref s.heap.objs.size)) { s with heap := h' }) :
    wpAny (model prog w) A (pyNext (.ref z)) Q E s := by
  have hT : s.TypeIs (.ref z) "zip" := ⟨_, Z.hz, rfl⟩
  unfold pyNext
  exact wpAny_bind (wpAny_attempt (wpAny_callSpecial?_slot (name := Str.ofString "__next__") hT PySem.F.slot_zip_next
    (wpAny_call_entry PySem.F.slot_zip_next hT PySem.F.entry_zip_next (zipt_item D Z hx hy fun h' a1 a2 a3 a4 a5 a6 => wpAny_pure (hQ h' a1 a2 a3 a4 a5 a6)) (PySem.F.args_zip_next_1 _))))

theorem next_zipt_end {z TI TO i1 i2 t1 t2 : Addr} {k : Nat} {xs ys : Array Value} {Q : Option Value → Shared → Prop} (hh : A.handled = none) (D : ZipApart z TI TO i1 i2 t1 t2) (Z : ZAt s.heap z TI TO i1 i2 t1 t2 xs ys k) (hend : xs[k]? = none)
    (hQ : ∀ h', (∀ c o, c ≠ z → c ≠ TO → c ≠ i1 → c ≠ i2 → s.heap.get? c = some o → h'.get? c = some o) → Q none { s with heap := h' }) : wpAny (model prog w) A (pyNext (.ref z)) Q E s := by
  have hT : s.TypeIs (.ref z) "zip" := ⟨_, Z.hz, rfl⟩
  unfold pyNext
  refine wpAny_bind (wpAny_attempt (wpAny_callSpecial?_slot (name := Str.ofString "__next__") hT PySem.F.slot_zip_next
    (wpAny_call_entry PySem.F.slot_zip_next hT PySem.F.entry_zip_next (zipt_end hh D Z hend fun h' e hk he => ?_) (PySem.F.args_zip_next_1 _))))
  obtain ⟨o, ho, hc⟩ := he
  refine wpAny_bind (wpAny_isInstance (T := "StopIteration") (b := true) ⟨o, ho, hc⟩ isSubtype_stop ?_)
  exact wpAny_pure (hQ _ hk)

abbrev zt1 (h : Heap) (l1 : Addr) : Heap := h.push { cls := .type "tuple_iterator", data := .fields #[.ref l1, .int 0 0] }
abbrev zt2 (h : Heap) (l1 l2 : Addr) : Heap := (zt1 h l1).push { cls := .type "tuple_iterator", data := .fields #[.ref l2, .int 0 0] }
abbrev zt3 (h : Heap) (l1 l2 : Addr) : Heap := (zt2 h l1 l2).push { cls := .type "tuple", data := .seq #[.ref h.objs.size, .ref (zt1 h l1).objs.size] }
abbrev zt4 (h : Heap) (l1 l2 : Addr) : Heap := (zt3 h l1 l2).push { cls := .type "tuple", data := .seq #[.none, .none] }
abbrev zt5 (h : Heap) (l1 l2 : Addr) : Heap := (zt4 h l1 l2).push { cls := .type "zip", data := .fields #[.none, .bool false, .bool false, .ref (zt2 h l1 l2).objs.size, .ref (zt3 h l1 l2).objs.size] }

theorem meets_zipt (l1 l2 : Addr) (xs ys : Array Value) :
    Meets (Builtin.«zip.__new__» ⟨[.type "zip", .ref l1, .ref l2], []⟩) (fun _ R s => IsTup s.heap l1 xs ∧ IsTup s.heap l2 ys ∧
      R (.ok (.ret (.ref (zt4 s.heap l1 l2).objs.size))) { s with heap := zt5 s.heap l1 l2 }) :=
  .of_wp fun prog w A R s h => by
    obtain ⟨hp, g, d, tk, os⟩ := s; obtain ⟨hl1, hl2, h⟩ := h
    have hsub := sub_zip
    have hL1 : IsTup (Shared.heap ⟨hp, g, d, tk, os⟩) l1 xs := hl1
    have hL2 : IsTup (Shared.heap ⟨hp.push { cls := .type "tuple_iterator", data := .fields #[.ref l1, .int 0 0] }, g, d, tk, os⟩) l2 ys := IsTup.push hl2 _
    wp_walk using iter_tuple hL1, iter_tuple hL2
    exact ⟨_, rfl, h⟩

theorem call_zipt {l1 l2 : Addr} {xs ys : Array Value} {Q : Value → Shared → Prop} (hl1 : IsTup s.heap l1 xs) (hl2 : IsTup s.heap l2 ys)
    (h : ∀ h', ZAt h' (s.heap.objs.size + 4) (s.heap.objs.size + 2) (s.heap.objs.size + 3) s.heap.objs.size (s.heap.objs.size + 1) l1 l2 xs ys 0 → h'.objs.size = s.heap.objs.size + 5 →
      (∀ c o, s.heap.get? c = some o → h'.get? c = some o) → Q (.ref (s.heap.objs.size + 4)) { s with heap := h' }) :
    wpAny (model prog w) A (call (.type "zip") [.ref l1, .ref l2]) Q E s := by
  refine callType_new PySem.F.called_zip (by decide) (PySem.F.typeCall_zip_2 _ _) (PySem.F.newCall_zip_2 _ _) (fun obj => PySem.F.args_object_init_3 obj _ _) PySem.F.entry_zip_new
    (meets_zipt l1 l2 xs ys) ⟨hl1, hl2, ?_⟩
  have z1 : (zt1 s.heap l1).objs.size = s.heap.objs.size + 1 := Heap.size_push ..
  have z2 : (zt2 s.heap l1 l2).objs.size = s.heap.objs.size + 2 := by rw [Heap.size_push, z1]
  have z3 : (zt3 s.heap l1 l2).objs.size = s.heap.objs.size + 3 := by rw [Heap.size_push, z2]
  have z4 : (zt4 s.heap l1 l2).objs.size = s.heap.objs.size + 4 := by rw [Heap.size_push, z3]
  have z5 : (zt5 s.heap l1 l2).objs.size = s.heap.objs.size + 5 := by rw [Heap.size_push, z4]
  have g5 : (zt5 s.heap l1 l2).get? (zt4 s.heap l1 l2).objs.size = some _ := Heap.get?_push_size _ rfl
  have g4 : (zt5 s.heap l1 l2).get? (zt3 s.heap l1 l2).objs.size = some _ := Heap.get?_push_of_some _ (Heap.get?_push_size _ rfl)
  have g3 : (zt5 s.heap l1 l2).get? (zt2 s.heap l1 l2).objs.size = some _ := Heap.get?_push_of_some _ (Heap.get?_push_of_some _ (Heap.get?_push_size _ rfl))
  have g2 : (zt5 s.heap l1 l2).get? (zt1 s.heap l1).objs.size = some _ := Heap.get?_push_of_some _ (Heap.get?_push_of_some _ (Heap.get?_push_of_some _ (Heap.get?_push_size _ rfl)))
  have g1 : (zt5 s.heap l1 l2).get? s.heap.objs.size = some _ := Heap.get?_push_of_some _ (Heap.get?_push_of_some _ (Heap.get?_push_of_some _ (Heap.get?_push_of_some _ (Heap.get?_push_size _ rfl))))
  have old : ∀ c o, s.heap.get? c = some o → (zt5 s.heap l1 l2).get? c = some o := fun c o x => Heap.get?_push_of_some _ (Heap.get?_push_of_some _ (Heap.get?_push_of_some _ (Heap.get?_push_of_some _ (Heap.get?_push_of_some _ x))))
  show _ ∧ _
  rw [z2, z3, z4] at g5
  rw [z1, z2] at g3
  rw [z3] at g4
  rw [z1] at g2
  rw [z4]
  exact ⟨⟨_, g5, rfl⟩, h _ ⟨g5, g3, ⟨_, _, g4⟩, ⟨_, g1, rfl, rfl⟩, ⟨_, g2, rfl, rfl⟩, hl1.keeps old, hl2.keeps old⟩ z5 old⟩

end
end ZipTupPart
end Mine

/-! part: ZipComp -/
namespace Mine
section ZipCompPart
open PyProof.Rows.LCg
local macro_rules | `(tactic| walk_at "pad ZipComp 0") => `(tactic| skip)
local macro_rules | `(tactic| walk_at "pad ZipComp 1") => `(tactic| skip)
local macro_rules | `(tactic| walk_at "pad ZipComp 2") => `(tactic| skip)
local macro_rules | `(tactic| walk_at "pad ZipComp 3") => `(tactic| skip)
local macro_rules | `(tactic| walk_at "pad ZipComp 4") => `(tactic| skip)
local macro_rules | `(tactic| walk_at "pad ZipComp 5") => `(tactic| skip)
local macro_rules | `(tactic| walk_at "pad ZipComp 6") => `(tactic| skip)
/-- what an element's evaluation hands back: the ledger as it stood, and a word of the value -/
def EltEnd (h₀ : Heap) (L : Addr) (m : Str → Option Value) (s : Shared) (led : List (Addr × Obj)) (P : Value → Prop) (v : Value) (s' : Shared) : Prop :=
  ∃ h' tk', s' = { s with heap := h', toks := tk' } ∧ Fr h₀ L h' m ∧ News h₀ L h' led ∧ P v

structure ZSrc (prog : Program) (w : World) (A : Around) (h₀ : Heap) (L : Addr) (m : Str → Option Value) (env : Env) (elt : PySem.Expr) (a b : Str) (scope : Scope) (cl : List (Str × Addr)) (Q : Value → Shared → Prop) (z : Addr) (s₁ : Shared)
    (TI TO i1 i2 t1 t2 : Addr) (xs ys : Array Value) (news : List (Addr × Obj)) (n : Nat) (R : Nat → Value → Prop) : Prop where
  D : ZipApart z TI TO i1 i2 t1 t2
  Z : ZAt s₁.heap z TI TO i1 i2 t1 t2 xs ys 0
  F : Fr h₀ L s₁.heap m
  N : News h₀ L s₁.heap news
  own : ∀ c, c = z ∨ c = TI ∨ c = TO ∨ c = i1 ∨ c = i2 → h₀.get? c = none ∧ c ≠ L ∧ ∀ p ∈ news, p.1 ≠ c
  m1 : ∃ o, (t1, o) ∈ news
  m2 : ∃ o, (t2, o) ∈ news
  nx : xs.size = n
  ny : ys.size = n
  hsz : n ≤ sizeLine
  turn : ∀ (i : Nat) (x y : Value) (led : List (Addr × Obj)) (h : Heap) (tk : Nat) (C : Addr) (oC : Obj) (m₂ : Str → Option Value) (E' : Value → Shared → Prop), xs[i]? = some x → ys[i]? = some y → NsObj oC m₂ → m₂ a = some x → m₂ b = some y → Fr h₀ L h m →
      News h₀ L h ((C, oC) :: led) → (∀ p ∈ news, p ∈ led) →
      wpAny (model prog w) A (eval elt (compEnvC scope cl C env)) (EltEnd h₀ L m { s₁ with heap := h, toks := tk } ((C, oC) :: led) (R i)) E' { s₁ with heap := h, toks := tk }
  fin : ∀ (D : Addr) (h : Heap) (tk : Nat) (vs : List Value), vs.length = n → (∀ j v, vs[j]? = some v → R j v) → Fr h₀ L h m → News h₀ L h ((D, lst vs) :: news) → (∀ p ∈ news, p.1 < D) → Q (.ref D) { s₁ with heap := h, toks := tk }

section
variable {prog : Program} {w : World} {A : Around} {E : Value → Shared → Prop} {s : Shared} {h₀ : Heap} {L : Addr} {m : Str → Option Value} {env : Env}

theorem zAt_keeps {h h' : Heap} {z TI TO i1 i2 t1 t2 : Addr} {xs ys : Array Value} {k : Nat} (Z : ZAt h z TI TO i1 i2 t1 t2 xs ys k)
    (hk : ∀ c o, c = z ∨ c = TI ∨ c = TO ∨ c = i1 ∨ c = i2 ∨ c = t1 ∨ c = t2 → h.get? c = some o → h'.get? c = some o) : ZAt h' z TI TO i1 i2 t1 t2 xs ys k := by
  obtain ⟨hz, hTI, ⟨a, b, hTO⟩, ⟨o1, e1, r1⟩, ⟨o2, e2, r2⟩, ⟨p1, f1, q1⟩, ⟨p2, f2, q2⟩⟩ := Z
  exact ⟨hk _ _ (by simp) hz, hk _ _ (by simp) hTI, ⟨a, b, hk _ _ (by simp) hTO⟩, ⟨o1, hk _ _ (by simp) e1, r1⟩, ⟨o2, hk _ _ (by simp) e2, r2⟩, ⟨p1, hk _ _ (by simp) f1, q1⟩, ⟨p2, hk _ _ (by simp) f2, q2⟩⟩

theorem listComp_zip {elt iter : PySem.Expr} {a b : Str} {pa pb tp : Pos} {kk : Nat} {scope : Scope} {cl : List (Str × Addr)} {pos : Pos} {Q : Value → Shared → Prop} (_F₀ : Fr h₀ L s.heap m) (hh : A.handled = none)
    (hclos : closureFor scope env = pure cl) (hcell : ∀ y ∈ scope.names, y.2 ≠ .cell) (hkind : scope.kind = .function)
    (hnames : ∀ y ∈ scope.names, y.2 = .local → scope.names.lookup y.1 = some .local) (hxa : scope.names.lookup a = some .local) (hxb : scope.names.lookup b = some .local) (hab : ¬ a = b)
    (h : wpAny (model prog w) A (eval iter env) (fun xv s₁ => ∃ z TI TO i1 i2 t1 t2 xs ys news n R, xv = .ref z ∧ ZSrc prog w A h₀ L m env elt a b scope cl Q z s₁ TI TO i1 i2 t1 t2 xs ys news n R) E s)
    (hs : ∀ x, foldedSetIterable iter env x = pure x := by intro _; rfl) :
    wpAny (model prog w) A (eval (.ListComp elt [⟨.Tuple [.Name a pa, .Name b pb] kk tp, iter, [], 0⟩] scope pos) env) Q E s := by
  rw [eval_ListComp]
  refine wpAny_comprehension_free (use := none) rfl hs hclos hkind hnames (wpAny_mono h (fun xv s₁ h₁ => ?_) fun _ _ e => e)
  obtain ⟨z, TI, TO, i1, i2, t1, t2, xs, ys, news, n, R, rfl, S⟩ := h₁
  obtain ⟨D, Z, F, N, own, ⟨ot1, hm1⟩, ⟨ot2, hm2⟩, nx, ny, hsz, turn, fin⟩ := S
  refine wpAny_pyIter_zip Z.hz ?_
  refine wpAny_newObj_type (wpAny_newFunctionEnv hcell (by intro y hy; simp at hy) (fun h₁ hns₁ hsb₁ => ?_) hkind)
  dsimp only at hns₁ hsb₁ ⊢
  generalize hH2 : s₁.heap.push { cls := .type "list", dict := none, data := .seq ([] : List Value).toArray } = H2 at hns₁ hsb₁ ⊢
  have hC : H2.objs.size = s₁.heap.objs.size + 1 := by rw [← hH2, Heap.size_push]
  have hDC : s₁.heap.objs.size ≠ H2.objs.size := by rw [hC]; exact Nat.ne_of_lt (Nat.lt_succ_self _)
  have below : ∀ c, c < s₁.heap.objs.size → c ≠ H2.objs.size ∧ c ≠ s₁.heap.objs.size := fun c hc => ⟨by rw [hC]; exact Nat.ne_of_lt (Nat.lt_succ_of_lt hc), Nat.ne_of_lt hc⟩
  have old : ∀ c o, s₁.heap.get? c = some o → h₁.get? c = some o := fun c o e => hsb₁.extBut c o (below c (Heap.lt_size e)).1 (Heap.get?_push_of_some _ (hH2 ▸ Heap.get?_push_of_some _ e))
  have hacc : h₁.get? s₁.heap.objs.size = some (lst []) := hsb₁.extBut _ _ hDC (Heap.get?_push_of_some _ (hH2 ▸ Heap.get?_push_size _ rfl))
  have fresh : ∀ c, s₁.heap.objs.size ≤ c → h₀.get? c = none := fun c hc => by
    cases e : h₀.get? c with
    | none => rfl
    | some o' => exact absurd (Heap.lt_size (F.keep c o' e)) (Nat.not_lt.mpr hc)
  have hD₀ : h₀.get? s₁.heap.objs.size = none := fresh _ (Nat.le_refl _)
  have hC₀ : h₀.get? H2.objs.size = none := fresh _ (by rw [hC]; exact Nat.le_succ _)
  have hLlt : L < s₁.heap.objs.size := F.ns.lt
  have hDL : s₁.heap.objs.size ≠ L := Ne.symm (below L hLlt).2
  have hCL : H2.objs.size ≠ L := Ne.symm (below L hLlt).1
  have nlt : ∀ p ∈ news, p.1 < s₁.heap.objs.size := fun p hp => Heap.lt_size (N p hp).1
  obtain ⟨qz, qTI, ⟨qa, qb, qTO⟩, ⟨qo1, q1, _⟩, ⟨qo2, q2, _⟩, ⟨qp1, u1, _⟩, ⟨qp2, u2, _⟩⟩ := id Z
  have fpLt : ∀ c, c = z ∨ c = TI ∨ c = TO ∨ c = i1 ∨ c = i2 ∨ c = t1 ∨ c = t2 → c < s₁.heap.objs.size := by
    rintro c (rfl | rfl | rfl | rfl | rfl | rfl | rfl)
    · exact Heap.lt_size qz
    · exact Heap.lt_size qTI
    · exact Heap.lt_size qTO
    · exact Heap.lt_size q1
    · exact Heap.lt_size q2
    · exact Heap.lt_size u1
    · exact Heap.lt_size u2
  have own5 : ∀ c, c = z ∨ c = TI ∨ c = TO ∨ c = i1 ∨ c = i2 → c = z ∨ c = TI ∨ c = TO ∨ c = i1 ∨ c = i2 ∨ c = t1 ∨ c = t2 := by
    rintro c (rfl | rfl | rfl | rfl | rfl) <;> simp
  generalize hDA : s₁.heap.objs.size = DA at *
  generalize hCA : H2.objs.size = CA at *
  have start : ∀ s₃ : Shared, s₃ = { s₁ with heap := h₁, toks := s₁.toks + ([] : List (Str × Value)).length } →
      codeAny (model prog w) A (.compLoop (.ListComp elt [⟨.Tuple [.Name a pa, .Name b pb] kk tp, iter, [], 0⟩] scope pos) 0 (.ref z) (.ref DA) (compEnvC scope cl CA env)) (compPost (model prog w) A E none Q (.ref DA) CA) s₃ := by
    rintro s₃ rfl
    refine kcp_loop
      (fun k s' => ∃ h' tk i vs m', s' = { s₁ with heap := h', toks := tk } ∧ i ≤ n ∧ k = n + 1 - i ∧ vs.length = i ∧ (∀ j v, vs[j]? = some v → R j v) ∧ ZAt h' z TI TO i1 i2 t1 t2 xs ys i ∧ Fr h₀ L h' m ∧ h'.Ns CA m' ∧
        News h₀ L h' ((DA, lst vs) :: news)) ?_ (n + 1)
      ⟨h₁, _, 0, [], _, rfl, Nat.zero_le _, rfl, rfl, (fun j v hv => by simp at hv), zAt_keeps Z (fun c o _ e => old c o e), F.keeps old, hns₁, fun p hp => ?_⟩
    · rintro k s' ⟨h', tk, i, vs, m', rfl, hi, rfl, hvl, hR, Z', F', hn', N'⟩
      by_cases hlt : i < n
      · have hx : xs[i]? = some (xs[i]'(by omega)) := Array.getElem?_eq_getElem _
        have hy : ys[i]? = some (ys[i]'(by omega)) := Array.getElem?_eq_getElem _
        generalize xs[i]'(by omega) = x at hx
        generalize ys[i]'(by omega) = y at hy
        refine next_zipt D Z' hx hy fun h₂ hz₂ p₂ n1₂ n2₂ pT₂ k₂ => ?_
        dsimp only
        refine wpAny_letOwnedTupleGo_zip hz₂ fun h₃ hz₃ e₃ => ?_
        have k₃ := e₃.extBut
        have hTz : h'.objs.size ≠ z := Nat.ne_of_gt (Heap.lt_size Z'.hz)
        have pT₃ : IsPair h₃ h'.objs.size x y := k₃ _ _ hTz pT₂
        have k23 : ∀ c o, c ≠ z → c ≠ TO → c ≠ i1 → c ≠ i2 → h'.get? c = some o → h₃.get? c = some o := fun c o c1 c2 c3 c4 e => k₃ c o c1 (k₂ c o c1 c2 c3 c4 e)
        have Z₃ : ZAt h₃ z TI TO i1 i2 t1 t2 xs ys (i + 1) := by
          obtain ⟨_, hTI, _, _, _, ⟨p1, f1, r1⟩, ⟨p2, f2, r2⟩⟩ := Z'
          exact ⟨hz₃, k23 _ _ D.TIz D.TITO D.TIi1 D.TIi2 hTI, ⟨_, _, k₃ _ _ D.TOz p₂⟩, tupIter_ext n1₂ k₃ D.i1z, tupIter_ext n2₂ k₃ D.i2z, ⟨p1, k23 _ _ D.l1z D.l1TO D.l1i1 D.l1i2 f1, r1⟩, ⟨p2, k23 _ _ D.l2z D.l2TO D.l2i1 D.l2i2 f2, r2⟩⟩
        have offCA : ∀ c, c = z ∨ c = TI ∨ c = TO ∨ c = i1 ∨ c = i2 ∨ c = t1 ∨ c = t2 → c ≠ CA ∧ c ≠ DA := fun c hc => below c (fpLt c hc)
        have k23' : ∀ c o, (∀ d, d = z ∨ d = TI ∨ d = TO ∨ d = i1 ∨ d = i2 → c ≠ d) → h'.get? c = some o → h₃.get? c = some o := fun c o hc e => k23 c o (hc _ (by simp)) (hc _ (by simp)) (hc _ (by simp)) (hc _ (by simp)) e
        refine kcp_assign (env := compEnvC scope cl CA env) hh ⟨_, pT₃, rfl, _, rfl⟩ (lookup_relabel_local hxa) (lookup_relabel_local hxb) (by simp [compEnvC, relabel, hkind]) (hn'.at' fun o e => k23' _ o (fun d hd => Ne.symm (offCA d (own5 d hd)).1) e) fun h₄ tk₄ hn₄ e₄ => ?_
        have e₄' : ∀ c o, c ≠ CA → h₃.get? c = some o → h₄.get? c = some o := e₄
        have Z₄ : ZAt h₄ z TI TO i1 i2 t1 t2 xs ys (i + 1) := zAt_keeps Z₃ fun c o hc e => e₄' c o (offCA c hc).1 e
        have up : ∀ c o, (∀ d, d = z ∨ d = TI ∨ d = TO ∨ d = i1 ∨ d = i2 → c ≠ d) → c ≠ CA → h'.get? c = some o → h₄.get? c = some o := fun c o hc hcC e => e₄' c o hcC (k23' c o hc e)
        have F₄ : Fr h₀ L h₄ m := ⟨F'.ns.at' fun o e => up _ o (fun d hd => Ne.symm (own d hd).2.1) (Ne.symm hCL) e,
          fun c o e => up c o (fun d hd q => by rw [q, (own d hd).1] at e; cases e) (fun q => by rw [q, hC₀] at e; cases e) (F'.keep c o e), F'.above⟩
        obtain ⟨oC, heC, hoC⟩ := ns_obj hn₄
        obtain ⟨wz, wTI, ⟨wa, wb, wTO⟩, ⟨o1, w1, v1⟩, ⟨o2, w2, v2⟩, wt1, wt2⟩ := id Z₄
        obtain ⟨oz, woz⟩ : ∃ o, h₄.get? z = some o := ⟨_, wz⟩
        obtain ⟨oTI, woTI⟩ : ∃ o, h₄.get? TI = some o := ⟨_, wTI⟩
        obtain ⟨oTO, woTO⟩ : ∃ o, h₄.get? TO = some o := ⟨_, wTO⟩
        have N₄ : News h₀ L h₄ ((CA, oC) :: (z, oz) :: (TI, oTI) :: (TO, oTO) :: (i1, o1) :: (i2, o2) :: (DA, lst vs) :: news) := fun p hp => by
          simp only [List.mem_cons] at hp
          rcases hp with rfl | rfl | rfl | rfl | rfl | rfl | hp
          · exact ⟨heC, hCL, hC₀⟩
          · exact ⟨woz, (own z (by simp)).2.1, (own z (by simp)).1⟩
          · exact ⟨woTI, (own TI (by simp)).2.1, (own TI (by simp)).1⟩
          · exact ⟨woTO, (own TO (by simp)).2.1, (own TO (by simp)).1⟩
          · exact ⟨w1, (own i1 (by simp)).2.1, (own i1 (by simp)).1⟩
          · exact ⟨w2, (own i2 (by simp)).2.1, (own i2 (by simp)).1⟩
          · have zz := N' p (List.mem_cons.mpr hp)
            refine ⟨up _ _ (fun d hd => ?_) ?_ zz.1, zz.2⟩
            · rcases hp with rfl | hp
              · exact Ne.symm (offCA d (own5 d hd)).2
              · exact (own d hd).2.2 p hp
            · rcases hp with rfl | hp
              · exact hDC
              · exact (below _ (nlt p hp)).1
        refine wpAny_mono (turn i x y _ h₄ tk₄ CA oC _ _ hx hy hoC (by simp [hab]) (by simp) F₄ N₄ (fun p hp => by simp [hp])) (fun v s₅ h₅ => ?_) fun _ _ e => e
        obtain ⟨h₅, tk₅, rfl, F₅, N₅, hRv⟩ := h₅
        have at5 : ∀ c o, (c, o) ∈ ((CA, oC) :: (z, oz) :: (TI, oTI) :: (TO, oTO) :: (i1, o1) :: (i2, o2) :: (DA, lst vs) :: news) → h₅.get? c = some o := fun c o hm => (N₅ _ hm).1
        have Z₅ : ZAt h₅ z TI TO i1 i2 t1 t2 xs ys (i + 1) := by
          refine zAt_keeps Z₄ fun c o hc e => ?_
          rcases hc with rfl | rfl | rfl | rfl | rfl | rfl | rfl
          · rw [woz] at e; cases e; exact at5 _ _ (by simp)
          · rw [woTI] at e; cases e; exact at5 _ _ (by simp)
          · rw [woTO] at e; cases e; exact at5 _ _ (by simp)
          · rw [w1] at e; cases e; exact at5 _ _ (by simp)
          · rw [w2] at e; cases e; exact at5 _ _ (by simp)
          · have := (N₄ (c, ot1) (by simp [hm1])).1; rw [this] at e; cases e; exact at5 _ _ (by simp [hm1])
          · have := (N₄ (c, ot2) (by simp [hm2])).1; rw [this] at e; cases e; exact at5 _ _ (by simp [hm2])
        have zD := at5 DA (lst vs) (by simp)
        refine append_at (hsz := by show vs.toArray.size ≤ sizeLine; rw [List.size_toArray, hvl]; exact Nat.le_trans hi hsz) zD fun h₆ e₆ hD₆ => ?_
        have k₆ := e₆.extBut
        refine ⟨n + 1 - (i + 1), by omega, h₆, tk₅, i + 1, vs ++ [v], _, rfl, hlt, rfl, by rw [List.length_append, List.length_singleton, hvl], ?_, zAt_keeps Z₅ fun c o hc e => k₆ c o (offCA c hc).2 e, F₅.change e₆ hDL hD₀,
          (hoC.ns (at5 CA oC (by simp))).sameBut e₆ (Ne.symm hDC), fun p hp => ?_⟩
        · intro j u hj
          by_cases hjl : j < vs.length
          · rw [List.getElem?_append_left hjl] at hj
            exact hR j u hj
          · rw [List.getElem?_append_right (Nat.not_lt.mp hjl)] at hj
            have hj0 : j - vs.length = 0 := by
              cases q : j - vs.length with
              | zero => rfl
              | succ q' => rw [q] at hj; simp at hj
            rw [hj0] at hj
            have hju : j = i := by omega
            simp at hj
            rw [hju, ← hj]
            exact hRv
        · rcases List.mem_cons.mp hp with rfl | hp
          · exact ⟨hD₆.trans (congrArg some (lst_snoc vs v)), hDL, hD₀⟩
          · exact ⟨k₆ _ _ (below _ (nlt p hp)).2 (at5 p.1 p.2 (by simp [hp])), (N p hp).2⟩
      · have hin : i = n := Nat.le_antisymm hi (Nat.not_lt.mp hlt)
        subst hin
        refine next_zipt_end hh D Z' (by rw [Array.getElem?_eq_none]; omega) fun h₂ k₂ => ?_
        dsimp only
        have kk : ∀ c o, (∀ d, d = z ∨ d = TI ∨ d = TO ∨ d = i1 ∨ d = i2 → c ≠ d) → h'.get? c = some o → h₂.get? c = some o := fun c o hc e => k₂ c o (hc _ (by simp)) (hc _ (by simp)) (hc _ (by simp)) (hc _ (by simp)) e
        have F₂ : Fr h₀ L h₂ m := ⟨F'.ns.at' fun o e => kk _ o (fun d hd => Ne.symm (own d hd).2.1) e, fun c o e => kk c o (fun d hd q => by rw [q, (own d hd).1] at e; cases e) (F'.keep c o e), F'.above⟩
        have N₂ : News h₀ L h₂ ((DA, lst vs) :: news) := fun p hp => by
          refine ⟨kk _ _ (fun d hd => ?_) (N' p hp).1, (N' p hp).2⟩
          rcases List.mem_cons.mp hp with rfl | hp
          · exact Ne.symm (below d (fpLt d (own5 d hd))).2
          · exact (own d hd).2.2 p hp
        refine ⟨m', hn'.at' fun o e => kk _ o (fun d hd => Ne.symm (below d (fpLt d (own5 d hd))).1) e, fun h'' e'' => fin DA h'' tk vs hvl hR (F₂.change e'' hCL hC₀) (fun p hp => ?_) nlt⟩
        refine ⟨e''.extBut _ _ ?_ (N₂ p hp).1, (N₂ p hp).2⟩
        rcases List.mem_cons.mp hp with rfl | hp
        · exact hDC
        · exact (below _ (nlt p hp)).1
    · rcases List.mem_cons.mp hp with rfl | hp
      · exact ⟨hacc, hDL, hD₀⟩
      · exact ⟨old _ _ (N p hp).1, (N p hp).2⟩
  have Z₁ : ZAt h₁ z TI TO i1 i2 t1 t2 xs ys 0 := zAt_keeps Z (fun c o _ e => old c o e)
  exact codeAny_compStart_list (start _ rfl) (wpAny_pyIter_zip Z₁.hz (start _ rfl))

theorem zip_src {elt : PySem.Expr} {a b : Str} {scope : Scope} {cl : List (Str × Addr)} {Q : Value → Shared → Prop} {ra rb : Addr} {ca cb : Nat} {a0 a1 a2 a3 b0 b1 b2 b3 : Int} {ta0 ta1 ta2 ta3 tb0 tb1 tb2 tb3 : Tok} {news : List (Addr × Obj)}
    (F : Fr h₀ L s.heap m) (N : News h₀ L s.heap news)
    (hA : (ra, ({ cls := .type "tuple", data := .seq [Value.int a0 ta0, Value.int a1 ta1, Value.int a2 ta2, Value.int a3 ta3].toArray ca } : Obj)) ∈ news)
    (hB : (rb, ({ cls := .type "tuple", data := .seq [Value.int b0 tb0, Value.int b1 tb1, Value.int b2 tb2, Value.int b3 tb3].toArray cb } : Obj)) ∈ news) (f : Int → Int → Int) (lo hi : Int)
    (hl : ∀ x ∈ [a0, a1, a2, a3, b0, b1, b2, b3], lo ≤ x ∧ x ≤ hi)
    (turn : ∀ (p q : Int) (tp tq : Tok) (led : List (Addr × Obj)) (h : Heap) (tk : Nat) (C : Addr) (oC : Obj) (m₂ : Str → Option Value) (E' : Value → Shared → Prop), lo ≤ p → p ≤ hi → lo ≤ q → q ≤ hi → NsObj oC m₂ → m₂ a = some (.int p tp) → m₂ b = some (.int q tq) → Fr h₀ L h m →
      News h₀ L h ((C, oC) :: led) → (∀ p ∈ news, p ∈ led) →
      wpAny (model prog w) A (eval elt (compEnvC scope cl C env)) (EltEnd h₀ L m { s with heap := h, toks := tk } ((C, oC) :: led) (fun v => ∃ t, v = .int (f p q) t)) E' { s with heap := h, toks := tk })
    (fin : ∀ (D : Addr) (h : Heap) (tk : Nat) (t0 t1 t2 t3 : Tok), Fr h₀ L h m → News h₀ L h ((D, lst [.int (f a0 b0) t0, .int (f a1 b1) t1, .int (f a2 b2) t2, .int (f a3 b3) t3]) :: news) → (∀ p ∈ news, p.1 < D) → Q (.ref D) { s with heap := h, toks := tk }) :
    wpAny (model prog w) A (call (.type "zip") [.ref ra, .ref rb]) (fun xv s₁ => ∃ z TI TO i1 i2 t1 t2 xs ys news n R, xv = .ref z ∧ ZSrc prog w A h₀ L m env elt a b scope cl Q z s₁ TI TO i1 i2 t1 t2 xs ys news n R) E s := by
  have lta : ra < s.heap.objs.size := Heap.lt_size (N _ hA).1
  have ltb : rb < s.heap.objs.size := Heap.lt_size (N _ hB).1
  refine call_zipt ⟨_, (N _ hA).1, rfl, ca, rfl⟩ ⟨_, (N _ hB).1, rfl, cb, rfl⟩ fun h' Z hsz hk => ?_
  have fresh : ∀ c, s.heap.objs.size ≤ c → h₀.get? c = none := fun c hc => by
    cases e : h₀.get? c with
    | none => rfl
    | some o' => exact absurd (Heap.lt_size (F.keep c o' e)) (Nat.not_lt.mpr hc)
  refine ⟨_, _, _, _, _, _, _, _, _, news, 4, (fun i v => ∃ p q t, ([(a0, b0), (a1, b1), (a2, b2), (a3, b3)] : List (Int × Int))[i]? = some (p, q) ∧ v = .int (f p q) t), rfl, ktu_apart _ _ _ lta ltb, Z, F.keeps hk, N.grown hk, ?_, ⟨_, hA⟩, ⟨_, hB⟩, rfl, rfl, Nat.le_of_ble_eq_true rfl, ?_, ?_⟩
  · have hL : L < s.heap.objs.size := F.ns.lt
    have key : ∀ c, s.heap.objs.size ≤ c → h₀.get? c = none ∧ c ≠ L ∧ ∀ p ∈ news, p.1 ≠ c := fun c hc => ⟨fresh c hc, Nat.ne_of_gt (Nat.lt_of_lt_of_le hL hc), fun p hp => Nat.ne_of_lt (Nat.lt_of_lt_of_le (Heap.lt_size (N p hp).1) hc)⟩
    rintro c (rfl | rfl | rfl | rfl | rfl)
    · exact key _ (Nat.le_add_right _ _)
    · exact key _ (Nat.le_add_right _ _)
    · exact key _ (Nat.le_add_right _ _)
    · exact key _ (Nat.le_refl _)
    · exact key _ (Nat.le_add_right _ _)
  · intro i x y led h tk C oC m₂ E' hx hy hC hma hmb F' N' hsub
    have go : ∀ (p q : Int) (tp tq : Tok), ([(a0, b0), (a1, b1), (a2, b2), (a3, b3)] : List (Int × Int))[i]? = some (p, q) → lo ≤ p ∧ p ≤ hi → lo ≤ q ∧ q ≤ hi → x = .int p tp → y = .int q tq →
        wpAny (model prog w) A (eval elt (compEnvC scope cl C env)) (EltEnd h₀ L m { s with heap := h, toks := tk } ((C, oC) :: led) (fun v => ∃ p q t, ([(a0, b0), (a1, b1), (a2, b2), (a3, b3)] : List (Int × Int))[i]? = some (p, q) ∧ v = .int (f p q) t)) E' { s with heap := h, toks := tk } := by
      intro p q tp tq hi' hp hq ex ey
      refine wpAny_mono (turn p q tp tq led h tk C oC m₂ E' hp.1 hp.2 hq.1 hq.2 hC (ex ▸ hma) (ey ▸ hmb) F' N' hsub) (fun v s' hv => ?_) fun _ _ e => e
      obtain ⟨h'', tk'', e, F'', N'', t, hv⟩ := hv
      exact ⟨h'', tk'', e, F'', N'', p, q, t, hi', hv⟩
    match i, hx, hy, go with
    | 0, hx, hy, go => exact go a0 b0 ta0 tb0 rfl (hl _ (by simp)) (hl _ (by simp)) (by simpa using hx.symm) (by simpa using hy.symm)
    | 1, hx, hy, go => exact go a1 b1 ta1 tb1 rfl (hl _ (by simp)) (hl _ (by simp)) (by simpa using hx.symm) (by simpa using hy.symm)
    | 2, hx, hy, go => exact go a2 b2 ta2 tb2 rfl (hl _ (by simp)) (hl _ (by simp)) (by simpa using hx.symm) (by simpa using hy.symm)
    | 3, hx, hy, go => exact go a3 b3 ta3 tb3 rfl (hl _ (by simp)) (hl _ (by simp)) (by simpa using hx.symm) (by simpa using hy.symm)
    | k + 4, hx, hy, go => simp at hx
  · intro D h tk vs hv hR F' N' lt
    have at' : ∀ (j : Nat) (v : Value) (p q : Int), vs[j]? = some v → ([(a0, b0), (a1, b1), (a2, b2), (a3, b3)] : List (Int × Int))[j]? = some (p, q) → ∃ t, v = .int (f p q) t := by
      intro j v p q hj hpq
      obtain ⟨p', q', t, e, hv'⟩ := hR j v hj
      rw [hpq] at e
      cases e
      exact ⟨t, hv'⟩
    match vs, hv, N', at' with
    | [v0, v1, v2, v3], _, N', at' =>
      obtain ⟨t0, rfl⟩ := at' 0 v0 a0 b0 rfl rfl
      obtain ⟨t1, rfl⟩ := at' 1 v1 a1 b1 rfl rfl
      obtain ⟨t2, rfl⟩ := at' 2 v2 a2 b2 rfl rfl
      obtain ⟨t3, rfl⟩ := at' 3 v3 a3 b3 rfl rfl
      exact fin D h tk t0 t1 t2 t3 F' N' lt
end
end ZipCompPart
end Mine

/-! part: Plain -/
namespace Mine
section PlainPart
local macro_rules | `(tactic| walk_at "pad Plain 0") => `(tactic| skip)
local macro_rules | `(tactic| walk_at "pad Plain 1") => `(tactic| skip)
local macro_rules | `(tactic| walk_at "pad Plain 2") => `(tactic| skip)
local macro_rules | `(tactic| walk_at "pad Plain 3") => `(tactic| skip)
local macro_rules | `(tactic| walk_at "pad Plain 4") => `(tactic| skip)
local macro_rules | `(tactic| walk_at "pad Plain 5") => `(tactic| skip)
local macro_rules | `(tactic| walk_at "pad Plain 6") => `(tactic| skip)
local macro_rules | `(tactic| walk_at "pad Plain 7") => `(tactic| skip)
/-- q times r over 255, rounded to the nearest -/
def dv (r q : Int) : Int := (2 * (q * r) + 255) / 510

theorem dv_lo (r q : Int) : 510 * dv r q ≤ 2 * (q * r) + 255 := by unfold dv; omega
theorem dv_hi (r q : Int) : 2 * (q * r) + 255 < 510 * dv r q + 510 := by unfold dv; omega
theorem mixed_is (r p q : Int) : (2 * (p * 255 + q * r) + 255).fdiv (2 * 255) = p + dv r q := by
  rw [Int.fdiv_eq_ediv_of_nonneg _ (by decide)]
  unfold dv
  generalize q * r = x
  omega
theorem dv_zero (r : Int) : dv r 0 = 0 := by unfold dv; rw [Int.zero_mul]; decide
theorem dv_none (q : Int) : dv 0 q = 0 := by unfold dv; rw [Int.mul_zero]; decide
theorem dv_all (q : Int) : dv 255 q = q := by unfold dv; omega
theorem dv_full (r : Int) : dv r 255 = r := by unfold dv; omega
theorem dv_mono {r q q' : Int} (hr : 0 ≤ r) (h : q ≤ q') : dv r q ≤ dv r q' := by
  have := Int.mul_le_mul_of_nonneg_right h hr
  unfold dv
  omega
theorem dv_nonneg {r q : Int} (hr : 0 ≤ r) (hq : 0 ≤ q) : 0 ≤ dv r q := by
  have := dv_mono hr hq
  rw [dv_zero] at this
  exact this

theorem col_over {a0 a1 a2 a3 b0 b1 b2 b3 : Int} (ha : Col a0 a1 a2 a3) (hb : Col b0 b1 b2 b3) : Col (a0 + dv (255 - a3) b0) (a1 + dv (255 - a3) b1) (a2 + dv (255 - a3) b2) (a3 + dv (255 - a3) b3) := by
  obtain ⟨la0, ha0, la1, ha1, la2, ha2, la3, ha3⟩ := ha
  obtain ⟨lb0, hb0, lb1, hb1, lb2, hb2, lb3, hb3⟩ := hb
  have hr : 0 ≤ 255 - a3 := by omega
  have n0 := dv_nonneg hr lb0
  have n1 := dv_nonneg hr lb1
  have n2 := dv_nonneg hr lb2
  have n3 := dv_nonneg hr lb3
  have m0 := dv_mono hr hb0
  have m1 := dv_mono hr hb1
  have m2 := dv_mono hr hb2
  have m3 := dv_mono hr hb3
  rw [dv_full] at m3
  exact ⟨by omega, by omega, by omega, by omega, by omega, by omega, by omega, by omega⟩

/-- one part: the two ways of laying three differ by two at most -/
theorem near {r s b c k : Int} (hr : 0 ≤ r) (hr1 : r ≤ 255) (hs : 0 ≤ s) (hs1 : s ≤ 255) (hc : 0 ≤ c) (hc1 : c ≤ 255) (hk : k = 255 - s) :
    -2 ≤ dv r (b + dv s c) - (dv r b + dv (r - dv r k) c) ∧ dv r (b + dv s c) - (dv r b + dv (r - dv r k) c) ≤ 2 := by
  have i1 := dv_lo s c
  have i2 := dv_hi s c
  have o1 := dv_lo r (b + dv s c)
  have o2 := dv_hi r (b + dv s c)
  have b1 := dv_lo r b
  have b2 := dv_hi r b
  have k1 := dv_lo r k
  have k2 := dv_hi r k
  have e1 := dv_lo (r - dv r k) c
  have e2 := dv_hi (r - dv r k) c
  subst hk
  -- the products, by names
  generalize hX : dv r (b + dv s c) = X at *
  generalize hY : dv s c = Y at *
  generalize hZ : dv r b = Z at *
  generalize hK : dv r (255 - s) = K at *
  generalize hW : dv (r - K) c = W at *
  -- bounds times bounds
  have p1 : 0 ≤ r * (2 * (c * s) + 255 - 510 * Y) := Int.mul_nonneg hr (by omega)
  have p2 : 0 ≤ r * (510 * Y + 510 - (2 * (c * s) + 255) - 1) := Int.mul_nonneg hr (by omega)
  have p3 : 0 ≤ c * (2 * ((255 - s) * r) + 255 - 510 * K) := Int.mul_nonneg hc (by omega)
  have p4 : 0 ≤ c * (510 * K + 510 - (2 * ((255 - s) * r) + 255) - 1) := Int.mul_nonneg hc (by omega)
  have q1 : r * (2 * (c * s) + 255 - 510 * Y) = 2 * (c * s * r) + 255 * r - 510 * (Y * r) := by
    simp only [Int.mul_sub, Int.mul_add]; rw [Int.mul_left_comm r 2, Int.mul_comm r (c * s), Int.mul_left_comm r 510, Int.mul_comm r Y, Int.mul_comm r 255]
  have q2 : r * (510 * Y + 510 - (2 * (c * s) + 255) - 1) = 510 * (Y * r) + 254 * r - 2 * (c * s * r) := by
    have : 510 * Y + 510 - (2 * (c * s) + 255) - 1 = 510 * Y + 254 - 2 * (c * s) := by omega
    rw [this]
    simp only [Int.mul_sub, Int.mul_add]; rw [Int.mul_left_comm r 2, Int.mul_comm r (c * s), Int.mul_left_comm r 510, Int.mul_comm r Y, Int.mul_comm r 254]
  have t1 : (255 - s) * r = 255 * r - s * r := Int.sub_mul ..
  have t2 : c * (s * r) = c * s * r := (Int.mul_assoc ..).symm
  have t3 : c * (r - K) = c * r - c * K := Int.mul_sub ..
  have t4 : (b + Y) * r = b * r + Y * r := Int.add_mul ..
  rw [t1] at p3 p4
  have q3 : c * (2 * (255 * r - s * r) + 255 - 510 * K) = 510 * (c * r) - 2 * (c * s * r) + 255 * c - 510 * (c * K) := by
    have : 2 * (255 * r - s * r) + 255 - 510 * K = 510 * r - 2 * (s * r) + 255 - 510 * K := by omega
    rw [this]
    simp only [Int.mul_sub, Int.mul_add]; rw [Int.mul_left_comm c 2, t2, Int.mul_left_comm c 510 K, Int.mul_left_comm c 510 r, Int.mul_comm c 255]
  have q4 : c * (510 * K + 510 - (2 * (255 * r - s * r) + 255) - 1) = 510 * (c * K) + 254 * c - 510 * (c * r) + 2 * (c * s * r) := by
    have : 510 * K + 510 - (2 * (255 * r - s * r) + 255) - 1 = 510 * K + 254 - 510 * r + 2 * (s * r) := by omega
    rw [this]
    simp only [Int.mul_sub, Int.mul_add]; rw [Int.mul_left_comm c 2, t2, Int.mul_left_comm c 510 K, Int.mul_left_comm c 510 r, Int.mul_comm c 254]
  rw [q1] at p1
  rw [q2] at p2
  rw [q3] at p3
  rw [q4] at p4
  rw [t3] at e1 e2
  rw [t4] at o1 o2
  generalize c * s * r = u at *
  generalize Y * r = y at *
  generalize b * r = v at *
  generalize c * K = kk at *
  generalize c * r = cr at *
  omega

theorem near_col {a b c a3 b3 c3 : Int} (la3 : 0 ≤ a3) (ha3 : a3 ≤ 255) (lb3 : 0 ≤ b3) (hb3 : b3 ≤ 255) (lc3 : c3 ≤ 255) (lc : 0 ≤ c) (hc : c ≤ c3) :
    -2 ≤ a + dv (255 - a3) (b + dv (255 - b3) c) - (a + dv (255 - a3) b + dv (255 - (a3 + dv (255 - a3) b3)) c) ∧ a + dv (255 - a3) (b + dv (255 - b3) c) - (a + dv (255 - a3) b + dv (255 - (a3 + dv (255 - a3) b3)) c) ≤ 2 := by
  have h := near (r := 255 - a3) (s := 255 - b3) (b := b) (c := c) (k := b3) (by omega) (by omega) (by omega) (by omega) lc (by omega) (by omega)
  rw [show 255 - (a3 + dv (255 - a3) b3) = 255 - a3 - dv (255 - a3) b3 by omega]
  omega
theorem same_col {a b c a3 b3 c3 : Int} (lb : 0 ≤ b) (hb : b ≤ b3) (lc : 0 ≤ c) (hc : c ≤ c3) (h : a3 = 0 ∨ b3 = 0 ∨ c3 = 0 ∨ a3 = 255 ∨ b3 = 255) :
    a + dv (255 - a3) (b + dv (255 - b3) c) = a + dv (255 - a3) b + dv (255 - (a3 + dv (255 - a3) b3)) c := by
  rcases h with h | h | h | h | h
  · subst h
    rw [show (255 : Int) - 0 = 255 by omega, dv_all, dv_all, dv_all, show 255 - (0 + b3) = 255 - b3 by omega]
    omega
  · have e : b = 0 := by omega
    subst h
    subst e
    rw [show (255 : Int) - 0 = 255 by omega, dv_all, dv_zero, show 255 - (a3 + 0) = 255 - a3 by omega, Int.zero_add]
    omega
  · have e : c = 0 := by omega
    subst e
    rw [dv_zero, dv_zero, Int.add_zero]
    omega
  · subst h
    rw [show (255 : Int) - 255 = 0 by omega, dv_none, dv_none, dv_none, show (255 : Int) - (255 + 0) = 0 by omega, dv_none]
    omega
  · subst h
    rw [show (255 : Int) - 255 = 0 by omega, dv_none, dv_full, show 255 - (a3 + (255 - a3)) = 0 by omega, dv_none, Int.add_zero]
    omega
end PlainPart
end Mine

/-! part: Over -/
namespace Mine
section OverPart
local macro_rules | `(tactic| walk_at "pad Over 0") => `(tactic| skip)
local macro_rules | `(tactic| walk_at "pad Over 1") => `(tactic| skip)
local macro_rules | `(tactic| walk_at "pad Over 2") => `(tactic| skip)
local macro_rules | `(tactic| walk_at "pad Over 3") => `(tactic| skip)
theorem elt_end {h₀ : Heap} {L : Addr} {m : Str → Option Value} {s : Shared} {led : List (Addr × Obj)} {h' : Heap} {tk' : Nat} {x y : Int} {t : Tok} (F : Fr h₀ L h' m) (N : News h₀ L h' led) (e : y = x) :
    EltEnd h₀ L m s led (fun v => ∃ t, v = .int x t) (.int y t) { s with heap := h', toks := tk' } := by
  subst e
  exact ⟨_, _, rfl, F, N, _, rfl⟩
theorem news_pick3 {h₀ h : Heap} {L : Addr} {a b c : Addr × Obj} {r : List (Addr × Obj)} (N : News h₀ L h (a :: b :: c :: r)) : News h₀ L h (a :: r) := fun p hp => N p (by
  rcases List.mem_cons.mp hp with rfl | hp
  · exact List.mem_cons_self ..
  · exact List.mem_cons_of_mem _ (List.mem_cons_of_mem _ (List.mem_cons_of_mem _ hp)))
theorem all_of_allLt {d : Addr} : ∀ {r : List (Addr × Obj)}, AllLt d r → ∀ q ∈ r, q.1 < d
  | [], _, _, hq => nomatch hq
  | _ :: _, h, q, hq => by
    rcases List.mem_cons.mp hq with rfl | hq
    · exact h.1
    · exact all_of_allLt h.2 q hq
theorem col_all {a0 a1 a2 a3 b0 b1 b2 b3 : Int} (ha : Col a0 a1 a2 a3) (hb : Col b0 b1 b2 b3) : ∀ x ∈ [a0, a1, a2, a3, b0, b1, b2, b3], (0 : Int) ≤ x ∧ x ≤ 255 := by
  obtain ⟨la0, ha0, la1, ha1, la2, ha2, la3, ha3⟩ := ha
  obtain ⟨lb0, hb0, lb1, hb1, lb2, hb2, lb3, hb3⟩ := hb
  intro x hx
  simp only [List.mem_cons, List.not_mem_nil, or_false] at hx
  omega
local macro_rules | `(tactic| k_all) => `(tactic| first | assumption | (refine ne_of_allLt (by assumption) ?_; omega))
local macro_rules | `(tactic| k_mem) => `(tactic| first | assumption | exact (by assumption : ∀ p ∈ _, p ∈ _) _ (by k_mem))
local macro_rules | `(tactic| walk_at "m_enterC") => `(tactic| (refine' code_defC ?k1 ?k2 ?k3 ?k4 ?k5 ?kA ?kF ?kK ?k6 ?k7 ?k8 ?k9 ?kB ?kD ?_ ?c2 ?c3 ?c4; (case kA => exact rfl); (case kF => assumption); (case kK => assumption); (case k1 => k_asm); (case k2 => k_asm); (case k3 => k_asm); (case k4 => k_asm); (case k5 => k_asm); (case k6 => k_is); (case k7 => k_is); (case k8 => ktr_room); (case k9 => exact BindsTo.of_eq rfl); (case kB => exact rfl); (case kD => decide +kernel); (case c2 => exact rfl); (case c3 => exact rfl); (case c4 => exact rfl); k_whole; intro g' L' h' tk' cells' FG' F' N' Y' B' X' T' l1; (replace l1 := allLt_of l1); k_cells Y'; (try simp only [List.cons_append, List.nil_append] at N'); (try dsimp only); (try k_fold)))
local macro_rules | `(tactic| walk_at "m_enter") => `(tactic| (refine' code_def ?k1 ?k2 ?k3 ?k4 ?k5 ?kA ?kF ?kK ?k6 ?k7 ?k8 ?k9 ?kB ?_ ?c2 ?c3 ?c4 ?c5; (case kA => exact rfl); (case kF => first | exact rfl | assumption); (case kK => first | exact rfl | assumption); (case k1 => k_asm); (case k2 => k_asm); (case k3 => k_asm); (case k4 => k_asm); (case k5 => k_asm); (case k6 => k_is); (case k7 => k_is); (case k8 => ktr_room); (case k9 => exact BindsTo.of_eq rfl); (case c5 => decide); (case kB => exact locs rfl); (case c2 => exact rfl); (case c3 => exact rfl); (case c4 => exact rfl); k_whole; intro g' L' h' FG' F' N' B' X' T'; (try dsimp only); (try k_fold)))
local macro_rules | `(tactic| walk_at "call ref") => `(tactic| (k_here; (with_reducible show wpAny _ _ (call (Value.ref 21) _) _ _ _); k_dflt (refine wpAny_call ?_; walk_at "m_enter")))
local macro_rules | `(tactic| walk_at "eval ListComp") => `(tactic| (k_here; k_dflt (refine listComp_zip (by k_asm) (by rfl) (by with_unfolding_all rfl) (by decide) (by rfl) (by decide) (by rfl) (by rfl) (by decide) ?_)))
local macro_rules | `(tactic| walk_at "call type:zip") => `(tactic| fail "stop here")
set_option maxRecDepth 100000 in
set_option maxHeartbeats 400000 in
theorem over_ok (w : World) (mean : ExcName → Option Value) (mg mb : Str → Option Value) (dp un : Nat) (gd : Option (List Code)) (env : Env) (outer : List Env) (A₀ : Around) (base h₀ : Heap) (L : Addr) (m : Str → Option Value) (s : Shared)
    (news : List (Addr × Obj)) (ra rb : Addr) (ca cb : Nat) (a0 a1 a2 a3 b0 b1 b2 b3 : Int) (ta0 ta1 ta2 ta3 tb0 tb1 tb2 tb3 : Tok) (Q E : Value → Shared → Prop)
    (B : Below A₀ base outer h₀) (F : Fr h₀ L s.heap m) (X : (hd.heap_39 w.params).In h₀) (N : News h₀ L s.heap news) (T : Top hd.view_39 (looseW hd.view_39 []) mean mg mb h₀) (hf : env.frame = some L) (hk : env.scope.kind = .function)
    (hA : (ra, tup a0 ta0 a1 ta1 a2 ta2 a3 ta3 ca) ∈ news) (hB : (rb, tup b0 tb0 b1 tb1 b2 tb2 b3 tb3 cb) ∈ news) (hdp : dp + 4 < recursionLimit) (ha : Col a0 a1 a2 a3) (hb : Col b0 b1 b2 b3)
    (ret : ∀ (r : Addr) (c : Nat) (u0 u1 u2 u3 : Tok) (h' : Heap) (tk' : Nat), Col (a0 + dv (255 - a3) b0) (a1 + dv (255 - a3) b1) (a2 + dv (255 - a3) b2) (a3 + dv (255 - a3) b3) → (∀ p ∈ news, p.1 < r) → Fr h₀ L h' m →
      News h₀ L h' ((r, tup (a0 + dv (255 - a3) b0) u0 (a1 + dv (255 - a3) b1) u1 (a2 + dv (255 - a3) b2) u2 (a3 + dv (255 - a3) b3) u3 c) :: news) → Q (.ref r) { s with heap := h', toks := tk' }) :
    wpAny (model PySem.Challenge.rw_nu0001_01.row.prog w) (top1 dp un gd env outer) (call (.ref 26) [.ref ra, .ref rb]) Q E s := by
  revert X; k_fill; intro X
  have hall := col_all ha hb
  obtain ⟨la3, ha3⟩ : 0 ≤ a3 ∧ a3 ≤ 255 := ⟨ha.l3, ha.h3⟩
  refine wpAny_call ?_
  k_dflt (walk_at "m_enterC")
  k_steps
  refine zip_src (by k_asm) (by k_asm) (List.mem_cons_of_mem _ hA) (List.mem_cons_of_mem _ hB) (fun p q => p + dv (255 - a3) q) 0 255 hall ?_ ?_
  · intro p q tp tq led h tk C oC m₂ E' hp0 hp1 hq0 hq1 hC hma hmb Fc Nc hsub
    have hcell := hsub _ (List.mem_cons_self ..)
    k_steps
    try k_unfold
    exact elt_end (by k_asm) (by k_asm) (mixed_is (255 - a3) p q)
  · intro D h tk t0 t1 t2 t3 Fd Nd lt
    try dsimp only at Nd
    replace lt := allLt_of lt
    simp only [AllLt] at lt
    k_steps
    refine' ret _ _ _ _ _ _ _ _ (col_over ha hb) ?lt ?F ?N
    case F => k_asm
    case N => exact news_pick3 (by k_asm)
    case lt =>
      rename _ < _ ∧ _ < _ ∧ AllLt _ _ => hl
      exact all_of_allLt hl.2.2
end OverPart
end Mine

/-! part: Pool -/
namespace Mine
section PoolPart
local macro_rules | `(tactic| walk_at "pad Pool 0") => `(tactic| skip)
local macro_rules | `(tactic| walk_at "pad Pool 1") => `(tactic| skip)
local macro_rules | `(tactic| walk_at "pad Pool 2") => `(tactic| skip)
local macro_rules | `(tactic| walk_at "pad Pool 3") => `(tactic| skip)
local macro_rules | `(tactic| walk_at "pad Pool 4") => `(tactic| skip)
local macro_rules | `(tactic| walk_at "pad Pool 5") => `(tactic| skip)
local macro_rules | `(tactic| walk_at "pad Pool 6") => `(tactic| skip)
local macro_rules | `(tactic| walk_at "pad Pool 7") => `(tactic| skip)
local macro_rules | `(tactic| walk_at "pad Pool 8") => `(tactic| skip)
local macro_rules | `(tactic| k_all) => `(tactic| first | assumption | (refine ne_of_allLt (by assumption) ?_; omega))
local macro_rules | `(tactic| k_mem) => `(tactic| first | assumption | exact (by assumption : ∀ p ∈ _, p ∈ _) _ (by k_mem))
local macro_rules | `(tactic| walk_at "m_enter") => `(tactic| (refine' code_def ?k1 ?k2 ?k3 ?k4 ?k5 ?kA ?kF ?kK ?k6 ?k7 ?k8 ?k9 ?kB ?_ ?c2 ?c3 ?c4 ?c5; (case kA => exact rfl); (case kF => first | exact rfl | assumption); (case kK => first | exact rfl | assumption); (case k1 => k_asm); (case k2 => k_asm); (case k3 => k_asm); (case k4 => k_asm); (case k5 => k_asm); (case k6 => k_is); (case k7 => k_is); (case k8 => ktr_room); (case k9 => exact BindsTo.of_eq rfl); (case c5 => decide); (case kB => exact locs rfl); (case c2 => exact rfl); (case c3 => exact rfl); (case c4 => exact rfl); k_whole; intro g' L' h' FG' F' N' B' X' T'; (try dsimp only); (try k_lift B'); (try k_fold)))
set_option maxRecDepth 100000 in
set_option maxHeartbeats 800000 in
theorem pool_ok (w : World) (mean : ExcName → Option Value) (mg mb : Str → Option Value) (dp un : Nat) (gd : Option (List Code)) (env : Env) (outer : List Env) (A₀ : Around) (base h₀ : Heap) (L : Addr) (m : Str → Option Value) (s : Shared)
    (news : List (Addr × Obj)) (ls : Addr) (vs : List Value) (ns : List Int) (k : Int) (tk : Tok) (Q E : Value → Shared → Prop)
    (B : Below A₀ base outer h₀) (F : Fr h₀ L s.heap m) (X : (hd.heap_39 w.params).In h₀) (N : News h₀ L s.heap news) (T : Top hd.view_39 (looseW hd.view_39 []) mean mg mb h₀) (hf : env.frame = some L) (hk : env.scope.kind = .function)
    (hls : base.IsList ls vs.toArray) (hI : IntsAre vs ns) (hlen : ns.length ≤ 63) (hk0 : 0 ≤ k) (hk1 : k ≤ 1) (hdp : dp + 4 < recursionLimit)
    (ret : ∀ (l : Addr) (n : Nat) (s0 s1 : Int) (t0 t1 : Tok) (h' : Heap) (tk' : Nat), 0 ≤ s1 → s1 < 2147483647 → (∀ p ∈ news, p.1 < l) → Fr h₀ L h' m → News h₀ L h' ((l, src s0 t0 s1 t1 n) :: news) → Q (.ref l) { s with heap := h', toks := tk' }) :
    wpAny (model PySem.Challenge.rw_nu0001_01.row.prog w) (top1 dp un gd env outer) (call (.ref 33) [.ref ls, .int k tk]) Q E s := by
  revert X; k_fill; intro X
  refine wpAny_call ?_
  k_dflt (walk_at "m_enter")
  k_steps
  all_goals (refine' ret _ _ _ _ _ _ _ _ ?pa ?pb ?lt ?F ?N; (case F => k_asm); (case N => k_asm); (case pa => exact fmod_lo _ (by decide)); (case pb => exact fmod_hi _ (by decide)); (case lt => first | assumption | exact all_of_allLt (by assumption)))
end PoolPart
end Mine

/-! part: Cmp -/
namespace Mine
section CmpPart
open PySem.Spec PySem.SeqAt
local macro_rules | `(tactic| walk_at "pad Cmp 0") => `(tactic| skip)
local macro_rules | `(tactic| walk_at "pad Cmp 1") => `(tactic| skip)
local macro_rules | `(tactic| walk_at "pad Cmp 2") => `(tactic| skip)
local macro_rules | `(tactic| walk_at "pad Cmp 3") => `(tactic| skip)
local macro_rules | `(tactic| walk_at "pad Cmp 4") => `(tactic| skip)
local macro_rules | `(tactic| walk_at "pad Cmp 5") => `(tactic| skip)
local macro_rules | `(tactic| walk_at "pad Cmp 6") => `(tactic| skip)
local macro_rules | `(tactic| walk_at "pad Cmp 7") => `(tactic| skip)
local macro_rules | `(tactic| walk_at "pad Cmp 8") => `(tactic| skip)
local macro_rules | `(tactic| walk_at "pad Cmp 9") => `(tactic| skip)
local macro_rules | `(tactic| walk_at "pad Cmp 10") => `(tactic| skip)
abbrev tupD (a0 a1 a2 a3 : Int) : PyData := .tuple [.int a0, .int a1, .int a2, .int a3]
section
variable {prog : Program} {w : World} {A : Around} {E : Value → Shared → Prop} {s : Shared} {h₀ : Heap} {L : Addr} {news : List (Addr × Obj)} {Q : Value → Shared → Prop}
theorem reads_tup {h : Heap} {r : Addr} {c : Nat} {a0 a1 a2 a3 : Int} {t0 t1 t2 t3 : Tok} (N : News h₀ L h news) (hm : (r, tup a0 t0 a1 t1 a2 t2 a3 t3 c) ∈ news) : Reads h (.ref r) (tupD a0 a1 a2 a3) [] :=
  .tuple (N _ hm).1 rfl rfl (ReadsAll.cons (.int _ _) (ReadsAll.cons (.int _ _) (ReadsAll.cons (.int _ _) (ReadsAll.cons (.int _ _) ReadsAll.nil))))
theorem eqv_tup (a0 a1 a2 a3 b0 b1 b2 b3 : Int) : PyData.eqv (tupD a0 a1 a2 a3) (tupD b0 b1 b2 b3) = decide (a0 = b0 ∧ a1 = b1 ∧ a2 = b2 ∧ a3 = b3) := by
  simp only [tupD, PyData.eqv, PyData.eqvAll, Bool.and_true]
  by_cases h0 : a0 = b0 <;> by_cases h1 : a1 = b1 <;> by_cases h2 : a2 = b2 <;> by_cases h3 : a3 = b3 <;> simp [h0, h1, h2, h3]
/-- two tuples that are the same: != is False -/
theorem ne_tup {ra rb : Addr} {ca cb : Nat} {a0 a1 a2 a3 b0 b1 b2 b3 : Int} {t0 t1 t2 t3 u0 u1 u2 u3 : Tok} (N : News h₀ L s.heap news) (hA : (ra, tup a0 t0 a1 t1 a2 t2 a3 t3 ca) ∈ news) (hB : (rb, tup b0 u0 b1 u1 b2 u2 b3 u3 cb) ∈ news)
    (hu : A.units + 64 < cLine) (e0 : a0 = b0) (e1 : a1 = b1) (e2 : a2 = b2) (e3 : a3 = b3) (h : Q (.bool false) s) : wpAny (model prog w) A (compareOp .NotEq (.ref ra) (.ref rb)) Q E s := by
  refine ne_dataH (reads_tup N hA) (reads_tup N hB) rfl rfl hu ?_
  rw [eqv_tup, decide_eq_true ⟨e0, e1, e2, e3⟩]
  exact h
/-- two empty lists: != is False -/
theorem ne_nil {l r : Addr} {n k : Nat} (N : News h₀ L s.heap news) (hl : (l, listOf ([] : List Value).toArray n) ∈ news) (hr : (r, listOf ([] : List Value).toArray k) ∈ news) (hu : A.units + 64 < cLine) (h : Q (.bool false) s) :
    wpAny (model prog w) A (compareOp .NotEq (.ref l) (.ref r)) Q E s := by
  refine ne_dataH (da := .list []) (db := .list []) (.list (N _ hl).1 rfl rfl ReadsAll.nil) (.list (N _ hr).1 rfl rfl ReadsAll.nil) rfl rfl hu ?_
  exact h
theorem col_zero {a0 a1 a2 a3 : Int} (h : Col a0 a1 a2 a3) : decide (a0 = 0 ∧ a1 = 0 ∧ a2 = 0 ∧ a3 = 0) = decide (a3 = 0) := by
  obtain ⟨l0, h0, l1, h1, l2, h2, l3, h3⟩ := h
  by_cases e : a3 = 0
  · rw [decide_eq_true e, decide_eq_true (by omega)]
  · rw [decide_eq_false e, decide_eq_false (by omega)]
/-- the clear one in a list of three -/
theorem in_tups {l r ra rb rc : Addr} {n cr ca cb cc : Nat} {a0 a1 a2 a3 b0 b1 b2 b3 c0 c1 c2 c3 : Int} {x0 x1 x2 x3 t0 t1 t2 t3 u0 u1 u2 u3 v0 v1 v2 v3 : Tok} (N : News h₀ L s.heap news) (hl : (l, listOf [Value.ref ra, Value.ref rb, Value.ref rc].toArray n) ∈ news)
    (hR : (r, tup 0 x0 0 x1 0 x2 0 x3 cr) ∈ news) (hA : (ra, tup a0 t0 a1 t1 a2 t2 a3 t3 ca) ∈ news) (hB : (rb, tup b0 u0 b1 u1 b2 u2 b3 u3 cb) ∈ news) (hC : (rc, tup c0 v0 c1 v1 c2 v2 c3 v3 cc) ∈ news)
    (ha : Col a0 a1 a2 a3) (hb : Col b0 b1 b2 b3) (hc : Col c0 c1 c2 c3) (hu : A.units + 65 < cLine) (h1 : (a3 = 0 ∨ b3 = 0 ∨ c3 = 0) → Q (.bool true) s) (h2 : ¬ (a3 = 0 ∨ b3 = 0 ∨ c3 = 0) → Q (.bool false) s) :
    wpAny (model prog w) A (compareOp .In (.ref r) (.ref l)) Q E s := by
  refine in_list_reads (xs := [tupD a0 a1 a2 a3, tupD b0 b1 b2 b3, tupD c0 c1 c2 c3]) (.list (N _ hl).1 rfl rfl (ReadsAll.cons (reads_tup N hA) (ReadsAll.cons (reads_tup N hB) (ReadsAll.cons (reads_tup N hC) ReadsAll.nil)))) (reads_tup N hR) rfl rfl
    (room_in_shaped (xs := [tupD a0 a1 a2 a3, tupD b0 b1 b2 b3, tupD c0 c1 c2 c3]) rfl hu) ?_
  simp only [List.any_cons, List.any_nil, eqv_tup, col_zero ha, col_zero hb, col_zero hc, Bool.or_false]
  by_cases e : a3 = 0 ∨ b3 = 0 ∨ c3 = 0
  · have : (decide (a3 = 0) || (decide (b3 = 0) || decide (c3 = 0))) = true := by
      rcases e with e | e | e <;> simp [e]
    rw [this]
    exact h1 e
  · have : (decide (a3 = 0) || (decide (b3 = 0) || decide (c3 = 0))) = false := by
      simp only [not_or] at e
      simp [e.1, e.2.1, e.2.2]
    rw [this]
    exact h2 e
end
end CmpPart
end Mine

/-! part: Law -/
namespace Mine
section LawPart
def Stop (P : Prop) : Prop := P
/-- a fact that no arithmetic is to look at by itself -/
def Hid (P : Prop) : Prop := P
theorem Hid.in' {P : Prop} (h : P) : Hid P := h
theorem Hid.out {P : Prop} (h : Hid P) : P := h
theorem lt_src {r l : Addr} {s0 s1 : Int} {t0 t1 : Tok} {n : Nat} {news : List (Addr × Obj)} (lt : ∀ p ∈ news, p.1 < r) (hm : (l, src s0 t0 s1 t1 n) ∈ news) : @LT.lt Nat _ l r := lt _ hm
theorem Stop.mk' {P : Prop} (h : Stop P) : P := h
local macro_rules | `(tactic| walk_at "pyIter ref") => `(tactic| ((with_reducible show wpAny _ _ (pyIter (Value.ref _)) (fun it s₂ => LoopAtV _ _ _ _ _ (Str.ofString "k") _ _ _ it s₂) _ _); refine Stop.mk' ?_))
def IsCell (o : Obj) : Prop := ∃ v, o.data = .cell v
/-- a turn's end: it goes on, and what the loop holds stands; or it hands back -/
def TurnEnd (h₀ : Heap) (L : Addr) (led : List (Addr × Obj)) (l3 l2 l1 : Addr) (own : List (Addr × Obj)) (xs xc : Str) (ls cl : Value) (s : Shared) (Q : Flow → Shared → Prop) (f : Flow) (s₂ : Shared) : Prop :=
  match f with
  | .ret v => Q (.ret v) s₂
  | .brk => Q .next s₂
  | _ => ∃ h' tk m' c3 c2 c1, s₂ = { s with heap := h', toks := tk } ∧ Fr h₀ L h' m' ∧ News h₀ L h' (led ++ (l3, c3) :: (l2, c2) :: (l1, c1) :: own) ∧ IsCell c3 ∧ IsCell c2 ∧ IsCell c1 ∧ m' xs = some ls ∧ m' xc = some cl
section
variable {prog : Program} {w : World} {A : Around} {E : Value → Shared → Prop} {s : Shared} {env : Env} {h₀ : Heap} {x : Str} {body : List Stmt} {Q : Flow → Shared → Prop}
theorem law_loop {r d l3 l2 l1 : Addr} {od o3 o2 o1 : Obj} {b₀ : Int} {t₀ u₀ v₀ : Tok} {m₀ : Str → Option Value} {xs xc : Str} {ls cl : Value}
    (hh : A.handled = none) (hr : IsRange s.heap r 0 b₀ 1 t₀ u₀ v₀) (hb : b₀ = 1 ∨ b₀ = 2) (F : Fr h₀ env.locals s.heap m₀) (N : News h₀ env.locals s.heap [(d, od), (l3, o3), (l2, o2), (l1, o1)])
    (i3 : IsCell o3) (i2 : IsCell o2) (i1 : IsCell o1) (hxs : m₀ xs = some ls) (hxc : m₀ xc = some cl) (hx1 : xs ≠ x) (hx2 : xc ≠ x)
    (turn : ∀ (c3 c2 c1 : Obj) (k : Int) t (rest : Str → Option Value) h tk own, 0 ≤ k → k ≤ 1 → OwnOff own [d, l3, l2, l1] → IsCell c3 → IsCell c2 → IsCell c1 →
      Fr h₀ env.locals h (fun y => if y = x then some (.int k t) else if y = xs then some ls else if y = xc then some cl else rest y) → News h₀ env.locals h ((d, od) :: (l3, c3) :: (l2, c2) :: (l1, c1) :: own) →
      wpAny (model prog w) A (execs body env) (TurnEnd h₀ env.locals [(d, od)] l3 l2 l1 own xs xc ls cl { s with heap := h, toks := tk } Q) E { s with heap := h, toks := tk })
    (done : ∀ m₁ h tk, Fr h₀ env.locals h m₁ → Q .next { s with heap := h, toks := tk }) :
    wpAny (model prog w) A (pyIter (.ref r)) (fun it s₂ => LoopAtV prog w A h₀ env x body Q E it s₂) E s := by
  have hsmall : Builtin.Range.small 0 b₀ 1 = true := by rcases hb with rfl | rfl <;> decide
  have hn : Builtin.Range.rangeSize 0 b₀ 1 = (b₀.toNat : Int) := by rcases hb with rfl | rfl <;> rfl
  have hb2 : b₀.toNat ≤ 2 := by rcases hb with rfl | rfl <;> decide
  refine wpAny_pyIter_range hr hsmall ?_
  generalize b₀.toNat = n at hn hb2
  have W : Walks prog w A s.heap.objs.size [s.heap.objs.size] [s.heap.objs.size] n (fun i v => i < n ∧ ∃ t, v = .int (0 + i * 1) t)
      (fun i h => IsRangeIter h s.heap.objs.size (0 + (i : Nat) * 1) ((n : Int) - (i : Nat)) 1) := (Walks.range hh _ 0 1 n).bound
  refine loop_invN (fun _ m nx => ∃ c3 c2 c1 : Obj, nx = [(d, od), (l3, c3), (l2, c2), (l1, c1)] ∧ IsCell c3 ∧ IsCell c2 ∧ IsCell c1 ∧ m xs = some ls ∧ m xc = some cl) W ?_ ?_ ?_ ?_
    (by show IsRangeIter _ _ _ _ _; rw [hn]; simpa using Heap.get?_push_size _ rfl) (F.push _) (fun p hp => ⟨Heap.get?_push_of_some _ (N p hp).1, (N p hp).2⟩) ⟨o3, o2, o1, rfl, i3, i2, i1, hxs, hxc⟩ ?_ ?_
  · intro hm
    exact absurd F.ns.lt ((List.mem_singleton.mp hm) ▸ Nat.lt_irrefl _)
  · intro b hb
    rw [List.mem_singleton.mp hb]
    exact next_is_new F
  · intro p hp hI
    exact absurd (Heap.lt_size (N p hp).1) ((List.mem_singleton.mp hI) ▸ Nat.lt_irrefl _)
  · intro p hp hI
    exact absurd (Heap.lt_size (N p hp).1) ((List.mem_singleton.mp hI) ▸ Nat.lt_irrefl _)
  · rintro i v m₁ nx h tk own hi ⟨_, t, rfl⟩ _ hoff ⟨c3, c2, c1, rfl, j3, j2, j1, e1, e2⟩ F₁ N₁
    have em : (fun y => if y = x then some (Value.int (0 + (i : Int) * 1) t) else m₁ y) = fun y => if y = x then some (Value.int (0 + (i : Int) * 1) t) else if y = xs then some ls else if y = xc then some cl else m₁ y := by
      funext y
      by_cases h1 : y = x
      · simp [h1]
      · simp only [if_neg h1]
        by_cases h2 : y = xs
        · subst h2; simp [e1]
        · simp only [if_neg h2]
          by_cases h3 : y = xc
          · subst h3; simp [e2]
          · simp only [if_neg h3]
    rw [em] at F₁
    refine wpAny_mono (turn c3 c2 c1 _ t m₁ h tk own (by omega) (by omega) hoff j3 j2 j1 F₁ N₁) (fun f s₂ p => ?_) fun _ _ e => e
    have fin : (∃ h' tk' m' c3 c2 c1, s₂ = { { s with heap := h, toks := tk } with heap := h', toks := tk' } ∧ Fr h₀ env.locals h' m' ∧ News h₀ env.locals h' ([(d, od)] ++ (l3, c3) :: (l2, c2) :: (l1, c1) :: own) ∧ IsCell c3 ∧ IsCell c2 ∧ IsCell c1 ∧ m' xs = some ls ∧ m' xc = some cl) →
        InvEndN h₀ env.locals (fun m nx => ∃ c3 c2 c1 : Obj, nx = [(d, od), (l3, c3), (l2, c2), (l1, c1)] ∧ IsCell c3 ∧ IsCell c2 ∧ IsCell c1 ∧ m xs = some ls ∧ m xc = some cl) own ([(d, od), (l3, o3), (l2, o2), (l1, o1)].map (·.1)) { s with heap := h, toks := tk } s₂ := by
      rintro ⟨h', tk', m', d3, d2, d1, e, F', N', k3, k2, k1, f1, f2⟩
      subst e
      exact InvEndN.intro F' N' ⟨d3, d2, d1, rfl, k3, k2, k1, f1, f2⟩ rfl (fun p hp => by simp only [List.mem_cons, List.not_mem_nil, or_false] at hp; simp only [List.cons_append, List.nil_append, List.mem_cons]; rcases hp with h | h | h | h <;> simp [h]) (fun p hp => by simp [hp])
    cases f with
    | ret v => exact p
    | brk => exact p
    | next => exact fin p
    | cont => exact fin p
  · rintro m₁ nx h tk _ F₁ _
    exact done m₁ h tk F₁
end
theorem unrEnd_tl {h₀ : Heap} {L I : Addr} {it : Obj} {rest : (Str → Option Value) → List (Addr × Obj) → Prop} {s₁ : Shared} {h' : Heap} {tk : Nat} {m' : Str → Option Value} {tl : List (Addr × Obj)} (F : Fr h₀ L h' m') (N : News h₀ L h' ((I, it) :: tl))
    (off : ∀ p ∈ tl, p.1 ≠ I) (r : rest m' tl) : UnrEnd h₀ L s₁ I it rest { s₁ with heap := h', toks := tk } := UnrEnd.intro F N tl (fun _ hp => hp) off r
local macro_rules | `(tactic| walk_at "UnrEnd") => `(tactic| (refine unrEnd_tl (by k_asm) (by k_asm) (by k_all) ?_))
local macro_rules | `(tactic| walk_at "compareOp In ref ref") => `(tactic| (k_here; (with_reducible show wpAny _ _ (compareOp CmpOp.In (Value.ref _) (Value.ref _)) _ _ _); k_dflt (refine in_tups (by k_asm) (by k_mem) (by k_mem) (by k_mem) (by k_mem) (by k_mem) (by assumption) (by assumption) (by assumption) (by ke_room) ?_ ?_) <;> intro hin'))
local macro_rules | `(tactic| walk_at "compareOp NotEq ref ref") => `(tactic| (k_here; (with_reducible show wpAny _ _ (compareOp CmpOp.NotEq (Value.ref _) (Value.ref _)) _ _ _); k_dflt (refine ne_nil (by k_asm) (by k_mem) (by k_mem) (by ke_room) ?_)))
local macro_rules | `(tactic| walk_at "eval ListComp") => `(tactic| (k_here; lct_look; k_dflt (refine LCt.ListComp_T (F₀ := by k_asm) (by with_unfolding_all rfl) (by decide) (by rfl) (by decide) (by rfl) ?_)))
local macro_rules | `(tactic| walk_at "CompSrcT") => `(tactic| (k_here; k_dflt (refine LCt.CompSrcT.range (n := 4) (by rfl) (by k_asm) (by k_asm) (by assumption) (by first | decide | rfl) (by first | rfl | decide) (by first | size_fits | exact Nat.le_of_ble_eq_true rfl) ?_; intro g')))
local macro_rules | `(tactic| walk_at "subscriptTail") => `(tactic| (k_here; (with_reducible show wpAny _ _ (subscriptTail _ _ (Value.ref _) (Value.int _ _)) _ _ _); k_dflt (refine' item_tupleT ?t ?a ?b ?c ?d ?_; (case t => exact News.isTup (by k_asm) (by k_mem)); (case a => decide); (case b => decide); (case c => rfl); (case d => rfl); k_whole)))
local macro_rules | `(tactic| walk_at "compareOp NotEq ref ref") => `(tactic| (k_here; (with_reducible show wpAny _ _ (compareOp CmpOp.NotEq (Value.ref _) (Value.ref _)) _ _ _); k_dflt (refine ne_tup (by k_asm) (by k_mem) (by k_mem) (by ke_room) (by first | rfl | omega | exact (Hid.out (P := _ → _) (by assumption)) (by omega)) (by first | rfl | omega | exact (Hid.out (P := _ → _) (by assumption)) (by omega)) (by first | rfl | omega | exact (Hid.out (P := _ → _) (by assumption)) (by omega)) (by first | rfl | omega | exact (Hid.out (P := _ → _) (by assumption)) (by omega)) ?_)))
theorem compEnd_0 {h₀ : Heap} {L I C D : Addr} {m : Str → Option Value} {s₁ : Shared} {oI oC oD : Obj} {S : List (Addr × Obj) → Prop} {rest : Value → List (Addr × Obj) → Prop} {y : Value} {h' : Heap} {tk : Nat} {tl : List (Addr × Obj)}
    (F : Fr h₀ L h' m) (N : News h₀ L h' ((I, oI) :: (C, oC) :: (D, oD) :: tl)) (off : LCg.Off3 I C D tl) (hS : S tl) (r : rest y tl) :
    LCg.CompEnd h₀ L m s₁ I oI C oC D oD S rest y { s₁ with heap := h', toks := tk } := LCg.CompEnd.intro F N tl (fun _ hp => hp) off hS r
local macro_rules | `(tactic| walk_at "CompSrc") => `(tactic| (k_here; k_dflt (refine LCg.CompSrc.range (by rfl) (by k_asm) (by k_asm) (by assumption) (by first | decide | rfl) (by first | rfl | decide) (by first | size_fits | exact Nat.le_of_ble_eq_true rfl) ?_; intro g'; lcg_lit)))
local macro_rules | `(tactic| walk_at "CompEnd") => `(tactic| (refine compEnd_0 (by k_asm) (by k_asm) (by first | assumption | (simp only [LCg.Off3, and_true]; assumption)) (by lcg_src) ?_))
/-- a statement whose ways all go on, with what stood standing -/
def JoinEnd (h₀ : Heap) (L : Addr) (m : Str → Option Value) (news : List (Addr × Obj)) (s : Shared) (f : Flow) (s' : Shared) : Prop :=
  f = .next ∧ ∃ h' tk', s' = { s with heap := h', toks := tk' } ∧ Fr h₀ L h' m ∧ News h₀ L h' news
theorem join_end {h₀ : Heap} {L : Addr} {m : Str → Option Value} {news news' : List (Addr × Obj)} {s : Shared} {h' : Heap} {tk' : Nat} (F : Fr h₀ L h' m) (N : News h₀ L h' news') (hs : ∀ p ∈ news, p ∈ news') :
    JoinEnd h₀ L m news s .next { s with heap := h', toks := tk' } := ⟨rfl, _, _, rfl, F, fun p hp => N p (hs p hp)⟩
theorem join {M : Model} {A : Around} {E : Value → Shared → Prop} {Q : Flow → Shared → Prop} {s : Shared} {h₀ : Heap} {L : Addr} {m : Str → Option Value} {news : List (Addr × Obj)} {c : Sem Flow} (_F : Fr h₀ L s.heap m) (_N : News h₀ L s.heap news)
    (hc : wpAny M A c (JoinEnd h₀ L m news s) E s) (hk : ∀ h' tk', Fr h₀ L h' m → News h₀ L h' news → Q .next { s with heap := h', toks := tk' }) : wpAny M A c Q E s := by
  refine wpAny_mono hc (fun f s' hq => ?_) fun _ _ e => e
  obtain ⟨rfl, h', tk', rfl, F, N⟩ := hq
  exact hk h' tk' F N
def Inside (P : Prop) : Prop := P
theorem Inside.mk' {P : Prop} (h : Inside P) : P := h
local macro_rules | `(tactic| walk_at "exec If") => `(tactic| (k_here; (with_reducible show wpAny _ _ (exec (Stmt.If (Expr.BoolOp _ (Expr.Compare _ (CmpOp.In :: _) _ _ :: _) _) _ _ _) _) _ _ _); (fail_if_success (with_reducible show wpAny _ _ _ (JoinEnd _ _ _ _ _) _ _)); (k_dflt (refine join (by k_asm) (by k_asm) ?_ ?_)); (all_goals first | (intro h' tk' F' N'; k_sweep) | skip)))
local macro_rules | `(tactic| walk_at "JoinEnd") => `(tactic| (k_dflt (refine join_end (by k_asm) (by k_asm) (by first | exact fun _ hp => hp | exact fun _ hp => List.mem_cons_of_mem _ hp))))
theorem turn_end {h₀ : Heap} {L : Addr} {led : List (Addr × Obj)} {l3 l2 l1 : Addr} {own news' : List (Addr × Obj)} {xs xc : Str} {ls cl : Value} {s : Shared} {Q : Flow → Shared → Prop} {h' : Heap} {tk' : Nat} {m' : Str → Option Value} {c3 c2 c1 : Obj}
    (F : Fr h₀ L h' m') (N : News h₀ L h' news') (a3 : (l3, c3) ∈ news') (a2 : (l2, c2) ∈ news') (a1 : (l1, c1) ∈ news') (ho : ∀ p ∈ own, p ∈ news') (hl : ∀ p ∈ led, p ∈ news') (i3 : IsCell c3) (i2 : IsCell c2) (i1 : IsCell c1) (e1 : m' xs = some ls) (e2 : m' xc = some cl) :
    TurnEnd h₀ L led l3 l2 l1 own xs xc ls cl s Q .next { s with heap := h', toks := tk' } := by
  refine ⟨h', tk', m', c3, c2, c1, rfl, F, fun p hp => N p ?_, i3, i2, i1, e1, e2⟩
  rcases List.mem_append.mp hp with hp | hp
  · exact hl p hp
  · simp only [List.mem_cons] at hp
    rcases hp with rfl | rfl | rfl | hp
    · exact a3
    · exact a2
    · exact a1
    · exact ho p hp
theorem col_clear : Col 0 0 0 0 := ⟨by decide, by decide, by decide, by decide, by decide, by decide, by decide, by decide⟩
theorem col_full {c0 c1 c2 c3 : Int} (h : Col c0 c1 c2 c3) : Col c0 c1 c2 255 := by
  obtain ⟨l0, h0, l1, h1, l2, h2, l3, h3⟩ := h
  exact ⟨l0, by omega, l1, by omega, l2, by omega, by decide, by decide⟩
theorem col_lighter {b0 b1 b2 b3 : Int} (h : Col b0 b1 b2 b3) : Col (if b3 < b0 + 1 then b3 else b0 + 1) (if b3 < b1 + 1 then b3 else b1 + 1) (if b3 < b2 + 1 then b3 else b2 + 1) b3 := by
  obtain ⟨l0, h0, l1, h1, l2, h2, l3, h3⟩ := h
  exact ⟨by split <;> omega, by split <;> omega, by split <;> omega, by split <;> omega, by split <;> omega, by split <;> omega, l3, h3⟩
theorem lighter_le {b b3 : Int} (h : b ≤ b3) : b ≤ if b3 < b + 1 then b3 else b + 1 := by split <;> omega
theorem ne_int_no {prog : Program} {w : World} {A : Around} {E : Value → Shared → Prop} {s : Shared} {Q : Value → Shared → Prop} {a b : Int} {t u : Tok} (e : a = b) (h : Q (.bool false) s) : wpAny (model prog w) A (compareOp .NotEq (.int a t) (.int b u)) Q E s := by
  subst e
  refine ne_int ?_
  rw [show (a != a) = false by simp]
  exact h
local macro_rules | `(tactic| walk_at "compareOp NotEq int int") => `(tactic| (k_here; k_dflt (refine ne_int_no (by omega) ?_)))
local macro_rules | `(tactic| k_all) => `(tactic| first | assumption | (refine ne_of_allLt (by assumption) ?_; omega) | exact OwnOff.ne (by assumption) (by k_memK))
local macro_rules | `(tactic| walk_at "call ref") => `(tactic| (k_here; (first | (with_reducible show wpAny _ _ (call (Value.ref 33) _) _ _ _) | (with_reducible show wpAny _ _ (call (Value.ref 52) _) _ _ _) | (with_reducible show wpAny _ _ (call (Value.ref 26) _) _ _ _)); refine Stop.mk' ?_))
local macro_rules | `(tactic| walk_at "call ref") => `(tactic| (k_here; (with_reducible show wpAny _ _ (call (Value.ref 26) _) _ _ _); k_dflt (refine' over_ok _ _ _ _ _ _ _ _ _ _ _ _ _ _ _ _ _ _ _ _ _ _ _ _ _ _ _ _ _ _ _ _ _ _ _ _ _ _ ?kB ?kF ?kX ?kN ?kT ?kf ?kk ?kp ?kq ?kd ?ka ?kb ?_; (case kB => k_asm); (case kF => k_asm); (case kX => k_asm); (case kN => k_asm); (case kT => k_asm); (case kf => rfl); (case kk => rfl); (case kp => k_mem); (case kq => k_mem); (case kd => ktr_room); (case ka => first | assumption | exact col_clear | exact col_full (by assumption) | exact col_lighter (by assumption)); (case kb => first | assumption | exact col_clear | exact col_full (by assumption) | exact col_lighter (by assumption)); k_whole; intro r' c' u0' u1' u2' u3' h' tk' hcol' lt' F' N'; (replace lt' := lt_src lt' (by k_mem)); (try k_sweep))))
set_option maxRecDepth 100000 in
set_option maxHeartbeats 20000000 in
theorem main : PySem.Challenge.rw_nu0001_01.Holds := hd (by
  k_go0
  all_goals try k_fold
  k_steps
  unfold Stop
  rename IsRange _ _ _ _ _ _ _ _ => hR
  rename Fr _ _ _ _ => hF
  rename News _ _ _ _ => hN
  refine law_loop (xs := Str.ofString "script") (xc := Str.ofString "clear") (by rfl) hR ?_ hF hN ⟨_, by assumption⟩ ⟨_, by assumption⟩ ⟨_, by assumption⟩ (by rfl) (by rfl) (by decide) (by decide) ?_ ?_
  · split <;> split <;> omega
  · intro c3 c2 c1 k t rest h tk own hk0 hk1 hoff hc3 hc2 hc1 hF' hN'
    obtain ⟨v3, hv3⟩ := hc3
    obtain ⟨v2, hv2⟩ := hc2
    obtain ⟨v1, hv1⟩ := hc1
    clear hF hN
    rename Heap.CodeRec _ _ _ => hz9; clear hz9
    rename CellsAre _ _ _ => hz9; clear hz9
    rename Dflts _ _ _ _ _ _ => hz9; clear hz9
    k_fold
    k_steps
    unfold Stop
    k_dflt (refine' pool_ok _ _ _ _ _ _ _ _ _ _ _ _ _ _ _ _ _ _ _ _ _ _ _ ?kB ?kF ?kX ?kN ?kT ?kf ?kk ?kl ?ki ?kn ?k0 ?k1 ?kd ?_; (case kB => k_asm); (case kF => k_asm); (case kX => k_asm); (case kN => k_asm); (case kT => k_asm); (case kf => rfl); (case kk => rfl); (case kl => assumption); (case ki => assumption); (case kn => omega); (case k0 => assumption); (case k1 => assumption); (case kd => ktr_room); k_whole)
    intro l n s0 s1 t0 t1 h' tk' hs0 hs1 lt F' N'
    have ltl : AllLt l own := allLt_of fun p hp => lt p (List.mem_cons_of_mem _ (List.mem_cons_of_mem _ (List.mem_cons_of_mem _ (List.mem_cons_of_mem _ hp))))
    have lto : ∀ p ∈ own, p.1 ≠ l := fun p hp => Nat.ne_of_lt (lt p (List.mem_cons_of_mem _ (List.mem_cons_of_mem _ (List.mem_cons_of_mem _ (List.mem_cons_of_mem _ hp)))))
    k_lt lt
    k_sweep
    k_steps
    unfold Stop
    k_dflt (refine' colour_u _ _ _ _ _ _ _ _ _ _ _ _ _ _ _ _ _ _ _ _ _ _ _ _ _ ?kB ?kF ?kX ?kN ?kU ?kT ?kf ?kk ?kd ?k0 ?k1 ?_; (case kB => k_asm); (case kF => k_asm); (case kX => k_asm); (case kN => k_asm); (case kU => k_updF); (case kT => k_asm); (case kf => rfl); (case kk => rfl); (case kd => ktr_room); (case k0 => assumption); (case k1 => assumption); k_whole)
    intro rA cA A0 A1 A2 A3 uA0 uA1 uA2 uA3 s0' t0' s1' t1' h' tk' hA hs0' hs1' ltA F' N'
    try dsimp only at N' ltA
    k_lt ltA
    k_sweep
    k_steps
    unfold Stop
    k_dflt (refine' colour_u _ _ _ _ _ _ _ _ _ _ _ _ _ _ _ _ _ _ _ _ _ _ _ _ _ ?kB ?kF ?kX ?kN ?kU ?kT ?kf ?kk ?kd ?k0 ?k1 ?_; (case kB => k_asm); (case kF => k_asm); (case kX => k_asm); (case kN => k_asm); (case kU => k_updF); (case kT => k_asm); (case kf => rfl); (case kk => rfl); (case kd => ktr_room); (case k0 => assumption); (case k1 => assumption); k_whole)
    intro rB cB B0 B1 B2 B3 uB0 uB1 uB2 uB3 s0' t0' s1' t1' h' tk' hB hs0' hs1' ltB F' N'
    try dsimp only at N' ltB
    k_lt ltB
    k_sweep
    k_steps
    unfold Stop
    k_dflt (refine' colour_u _ _ _ _ _ _ _ _ _ _ _ _ _ _ _ _ _ _ _ _ _ _ _ _ _ ?kB ?kF ?kX ?kN ?kU ?kT ?kf ?kk ?kd ?k0 ?k1 ?_; (case kB => k_asm); (case kF => k_asm); (case kX => k_asm); (case kN => k_asm); (case kU => k_updF); (case kT => k_asm); (case kf => rfl); (case kk => rfl); (case kd => ktr_room); (case k0 => assumption); (case k1 => assumption); k_whole)
    intro rC cC C0 C1 C2 C3 uC0 uC1 uC2 uC3 s0' t0' s1' t1' h' tk' hC hs0' hs1' ltC F' N'
    try dsimp only at N' ltC
    k_lt ltC
    k_sweep
    obtain ⟨lA0, hA0, lA1, hA1, lA2, hA2, lA3, hA3⟩ := id hA
    obtain ⟨lB0, hB0, lB1, hB1, lB2, hB2, lB3, hB3⟩ := id hB
    obtain ⟨lC0, hC0, lC1, hC1, lC2, hC2, lC3, hC3⟩ := id hC
    have near0 := near_col (a := A0) (b := B0) (c := C0) lA3 hA3 lB3 hB3 hC3 lC0 hC0
    have near1 := near_col (a := A1) (b := B1) (c := C1) lA3 hA3 lB3 hB3 hC3 lC1 hC1
    have near2 := near_col (a := A2) (b := B2) (c := C2) lA3 hA3 lB3 hB3 hC3 lC2 hC2
    have near3 := near_col (a := A3) (b := B3) (c := C3) lA3 hA3 lB3 hB3 hC3 lC3 (Int.le_refl _)
    have same0 := Hid.in' <| same_col (a := A0) (a3 := A3) lB0 hB0 lC0 hC0
    have same1 := Hid.in' <| same_col (a := A1) (a3 := A3) lB1 hB1 lC1 hC1
    have same2 := Hid.in' <| same_col (a := A2) (a3 := A3) lB2 hB2 lC2 hC2
    have same3 := Hid.in' <| same_col (a := A3) (a3 := A3) lB3 (Int.le_refl _) lC3 (Int.le_refl _)
    have li0 := lighter_le hB0
    have li1 := lighter_le hB1
    have li2 := lighter_le hB2
    have fz := dv_zero (255 - A3)
    have ff := dv_full (255 - A3)
    have fe0 : dv (255 - 0) A0 = A0 := dv_all A0
    have fe1 : dv (255 - 0) A1 = A1 := dv_all A1
    have fe2 : dv (255 - 0) A2 = A2 := dv_all A2
    have fe3 : dv (255 - 0) A3 = A3 := dv_all A3
    have fn0 : dv (255 - 255) A0 = 0 := dv_none A0
    have fn1 : dv (255 - 255) A1 = 0 := dv_none A1
    have fn2 : dv (255 - 255) A2 = 0 := dv_none A2
    have fn3 : dv (255 - 255) A3 = 0 := dv_none A3
    k_steps
    · refine turn_end (by k_asm) (by k_asm) (by k_mem) (by k_mem) (by k_mem) ?_ ?_ ⟨_, by k_asm⟩ ⟨_, by k_asm⟩ ⟨_, by k_asm⟩ (by rfl) (by rfl)
      · intro p hp
        repeat (first | exact hp | refine List.mem_cons_of_mem _ ?_)
      · exact List.forall_mem_cons.mpr ⟨by k_mem, List.forall_mem_nil _⟩
  · intro m₁ h tk hF'
    k_steps)
end LawPart
end Mine

set_option maxRecDepth 100000 in
set_option maxHeartbeats 8000000 in
theorem PySem.Challenge.cw_nu0001_01_holds : PySem.Challenge.rw_nu0001_01.Holds := by
  exact Mine.main
