import PyProof.Rows.All
import Wide.All
import OpenK.AllK
import Wide.FinOn
import PySem.Challenge.RW_xm0702_01
open PySem PySem.W PyProof.Rows
set_option Elab.async false
namespace Mine
set_option maxRecDepth 100000 in
set_option maxHeartbeats 8000000 in
open_top hd for PySem.Challenge.rw_xm0702_01
end Mine

namespace Mine
open PySem PySem.W PyProof.Rows

abbrev PR : Program := PySem.Challenge.rw_xm0702_01.row.prog
abbrev TopOf (mean : ExcName → Option Value) (mg mb : Str → Option Value) (h : Heap) : Prop := Top hd.view_39 (looseW hd.view_39 []) mean mg mb h

/-- a contract of a call of the def at f -/
def Ret (k : Nat) (w : World) (f : Addr) (vs : List Value) (news : List (Addr × Obj)) (post : Value → List (Addr × Obj) → Prop) : Prop :=
  ∀ (mean : ExcName → Option Value) (mg mb : Str → Option Value) (dp un : Nat) (gd : Option (List Code)) (cn : Str) (cs : Scope) (a : Addr) (ccd : Value) (cl : List (Str × Addr)) (outer : List Env) (A₀ : Around) (base h₀ : Heap) (L : Addr) (m : Str → Option Value) (s : Shared)
    (Q E : Value → Shared → Prop),
    Below A₀ base outer h₀ → Fr h₀ L s.heap m → (hd.heap_39 w.params).In h₀ → News h₀ L s.heap news → Top hd.view_39 (looseW hd.view_39 []) mean mg mb h₀ → cs.kind = .function →
    dp + k < recursionLimit → un + 8 * k + 400 < cLine →
    (∀ r news' h' tk', Fr h₀ L h' m → News h₀ L h' news' → post r news' → Q r { s with heap := h', toks := tk' }) →
    wpAny (model PySem.Challenge.rw_xm0702_01.row.prog w) (ktrTop dp un gd cn cs L a ccd cl outer) (call (.ref f) vs) Q E s
end Mine

namespace Mine
open PySem PySem.W PyProof.Rows
local macro_rules | `(tactic| walk_at "mine enter") => `(tactic| (
  (refine' code_def ?k1 ?k2 ?k3 ?k4 ?k5 ?kA ?kF ?kK ?k6 ?k7 ?k8 ?k9 ?kB ?_ ?c2 ?c3 ?c4 ?c5; (case kA => exact rfl); (case kF => exact rfl); (case kK => assumption); (case k1 => k_asm); (case k2 => k_asm); (case k3 => k_asm); (case k4 => k_asm); (case k5 => k_asm); (case k6 => k_is); (case k7 => k_is); (case k8 => ktr_room); (case k9 => exact BindsTo.of_eq rfl); (case c5 => decide); (case kB => exact locs rfl); (case c2 => exact rfl); (case c3 => exact rfl); (case c4 => exact rfl); k_whole)))

theorem fm_em {a k : Int} (h : 0 ≤ k) : Int.fmod a k = a % k := Int.fmod_eq_emod_of_nonneg a h
theorem fd_ed {a k : Int} (h : 0 ≤ k) : Int.fdiv a k = a / k := Int.fdiv_eq_ediv_of_nonneg a h
theorem getD0 {a b : Int} : [a, b].getD (Int.toNat 0) 0 = a := rfl
theorem getD1 {a b : Int} : [a, b].getD (Int.toNat 1) 0 = b := rfl
theorem mul_small {a b : Int} (h0 : 0 ≤ b) (h1 : b < 4294967296) : IntMulOk a b := PySem.IntMulOk.of_right (PySem.intBits_le_64 (by omega) (by omega))
theorem small_mod (x : Int) : 0 ≤ Int.fmod x 2147483647 ∧ Int.fmod x 2147483647 < 4294967296 := by
  rw [fm_em (by decide)]; omega
theorem natAbs_fdiv {a t : Int} (h : 0 ≤ a) (ht : 1 ≤ t) (ha : a.natAbs < 2 ^ 1048577) : 0 ≤ Int.fdiv a t ∧ (Int.fdiv a t).natAbs < 2 ^ 1048577 := by
  rw [fd_ed (by omega)]
  have h1 : 0 ≤ a / t := Int.ediv_nonneg h (by omega)
  have h2 : a / t ≤ a := Int.ediv_le_self t h
  generalize 2 ^ 1048577 = K at *
  omega

local macro_rules | `(tactic| mul_fits) => `(tactic| exact mul_small (by simp only [getD1]; exact (small_mod _).1) (by simp only [getD1]; exact (small_mod _).2))

theorem take_x {x : Int} {top : Int} (h : 1 ≤ top) : 0 ≤ Int.fmod x top ∧ Int.fmod x top < top := by
  rw [fm_em (by omega)]
  exact ⟨Int.emod_nonneg _ (by omega), Int.emod_lt_of_pos _ (by omega)⟩
theorem take_a {a top : Int} (h : 1 ≤ top) (h0 : 0 ≤ a) : 0 ≤ Int.fdiv a top := by
  rw [fd_ed (by omega)]
  exact Int.ediv_nonneg h0 (by omega)
theorem take_b (x : Int) : 0 ≤ Int.fmod x 2147483647 ∧ Int.fmod x 2147483647 < 2147483647 := by
  rw [fm_em (by decide)]; omega

set_option maxRecDepth 100000 in
set_option maxHeartbeats 8000000 in
theorem take_ok (w : World) (src : Addr) (own : List (Addr × Obj)) (a b top : Int) (ta tb tt : Tok) (n : Nat) (h0 : 0 ≤ a) (h1 : 0 ≤ b) (h2 : b < 2147483647) (h3 : 1 ≤ top) (h4 : top ≤ 5) (hown : OwnOff own [src]) :
   Ret 1 w 47 [.ref src, .int top tt] ((src, listOf #[.int a ta, .int b tb] n) :: own) (fun r news' => ∃ x t a' b' ta' tb' n', r = .int x t ∧ 0 ≤ x ∧ x < top ∧ 0 ≤ a' ∧ 0 ≤ b' ∧ b' < 2147483647 ∧ news' = ((src, listOf #[.int a' ta', .int b' tb'] n') :: own)) := by
  w_top off
  unfold Ret
  intro mean mg mb dp un gd cn cs aF ccd cl outer A₀ base h₀ L m s Q E B F X N T hk hd hu hret
  refine wpAny_call ?_
  k_dflt (walk_at "mine enter"; intro g' L' h' FG' F' N' B' X' T'; (try dsimp only); (try k_fold))
  k_steps
  · exact hret _ _ _ _ (by k_asm) (by k_asm) ⟨_, _, _, _, _, _, _, rfl, (take_x h3).1, (take_x h3).2, take_a h3 h0, h1, h2, rfl⟩
  · exact hret _ _ _ _ (by k_asm) (by k_asm) ⟨_, _, _, _, _, _, _, rfl, (take_x h3).1, (take_x h3).2, h0, (take_b _).1, (take_b _).2, rfl⟩
end Mine

namespace Mine
open PySem PySem.W PyProof.Rows
-- lines without use: the walk keeps its table of lines for as long as their number is the same
local macro_rules | `(tactic| walk_at "mine line 0") => `(tactic| fail)
local macro_rules | `(tactic| walk_at "mine enter") => `(tactic| (
  (refine' code_def ?k1 ?k2 ?k3 ?k4 ?k5 ?kA ?kF ?kK ?k6 ?k7 ?k8 ?k9 ?kB ?_ ?c2 ?c3 ?c4 ?c5; (case kA => exact rfl); (case kF => exact rfl); (case kK => assumption); (case k1 => k_asm); (case k2 => k_asm); (case k3 => k_asm); (case k4 => k_asm); (case k5 => k_asm); (case k6 => k_is); (case k7 => k_is); (case k8 => ktr_room); (case k9 => exact BindsTo.of_eq rfl); (case c5 => decide); (case kB => exact locs rfl); (case c2 => exact rfl); (case c3 => exact rfl); (case c4 => exact rfl); k_whole)))

def be16 (n : Int) : Array UInt8 := #[((n.fdiv 256).fmod 256).toNat.toUInt8, (n.fmod 256).toNat.toUInt8]
def be32 (n : Int) : Array UInt8 := be16 (n.fdiv 65536) ++ be16 n

theorem Ret.use {k : Nat} {w : World} {f : Addr} {vs : List Value} {news : List (Addr × Obj)} {post : Value → List (Addr × Obj) → Prop} (C : Ret k w f vs news post)
    {mean : ExcName → Option Value} {mg mb : Str → Option Value} {dp un : Nat} {gd : Option (List Code)} {cn : Str} {cs : Scope} {a : Addr} {ccd : Value} {cl : List (Str × Addr)} {outer : List Env} {A₀ : Around} {base h₀ : Heap} {L : Addr} {m : Str → Option Value} {s : Shared}
    {Q E : Value → Shared → Prop} (B : Below A₀ base outer h₀) (F : Fr h₀ L s.heap m) (X : (hd.heap_39 w.params).In h₀) (N : News h₀ L s.heap news) (T : Top hd.view_39 (looseW hd.view_39 []) mean mg mb h₀) (hk : cs.kind = .function)
    (hd : dp + k < recursionLimit) (hu : un + 8 * k + 400 < cLine)
    (ret : ∀ r news' h' tk', Fr h₀ L h' m → News h₀ L h' news' → post r news' → Q r { s with heap := h', toks := tk' }) :
    wpAny (model PySem.Challenge.rw_xm0702_01.row.prog w) (ktrTop dp un gd cn cs L a ccd cl outer) (call (.ref f) vs) Q E s := C _ _ _ _ _ _ _ _ _ _ _ _ _ _ _ _ _ _ _ _ B F X N T hk hd hu ret

theorem news_sub {h₀ h : Heap} {L : Addr} {l l' : List (Addr × Obj)} (N : News h₀ L h l) (hs : ∀ p ∈ l', p ∈ l) : News h₀ L h l' := fun p hp => N p (hs p hp)
theorem sub_tail {p : Addr × Obj} {l : List (Addr × Obj)} : ∀ q ∈ l, q ∈ p :: l := fun _ h => List.mem_cons_of_mem _ h

set_option maxRecDepth 100000 in
set_option maxHeartbeats 8000000 in
theorem put16_ok (w : World) (news : List (Addr × Obj)) (n : Int) (t : Tok) :
   Ret 1 w 21 [.int n t] news (fun r news' => news' = news ∧ ∃ t', r = .bytes (be16 n) t') := by
  w_top off
  unfold Ret
  intro mean mg mb dp un gd cn cs aF ccd cl outer A₀ base h₀ L m s Q E B F X N T hk hd hu hret
  refine wpAny_call ?_
  k_dflt (walk_at "mine enter"; intro g' L' h' FG' F' N' B' X' T'; (try dsimp only); (try k_fold))
  k_steps
  exact hret _ _ _ _ (by k_asm) (news_sub (by k_asm) sub_tail) ⟨rfl, _, rfl⟩

local macro_rules | `(tactic| walk_at "call ref") => `(tactic| (
  k_dflt (refine' Ret.use (put16_ok _ _ _ _) ?k1 ?k2 ?k3 ?k4 ?k5 ?kK ?kd ?ku ?_; (case k1 => k_asm); (case k2 => k_asm); (case k3 => k_asm); (case k4 => k_asm); (case k5 => k_asm); (case kK => first | exact rfl | assumption); (case kd => ktr_room); (case ku => ktr_units));
  intro r9 n9 h9 tk9 F9 N9 P9; obtain ⟨e9, t9, f9⟩ := P9; subst e9; subst f9; (try dsimp only); (try k_fold)))

set_option maxRecDepth 100000 in
set_option maxHeartbeats 8000000 in
theorem put32_ok (w : World) (news : List (Addr × Obj)) (n : Int) (t : Tok) :
   Ret 2 w 28 [.int n t] news (fun r news' => news' = news ∧ ∃ t', r = .bytes (be32 n) t') := by
  w_top off
  unfold Ret
  intro mean mg mb dp un gd cn cs aF ccd cl outer A₀ base h₀ L m s Q E B F X N T hk hd hu hret
  refine wpAny_call ?_
  k_dflt (walk_at "mine enter"; intro g' L' h' FG' F' N' B' X' T'; (try dsimp only); (try k_fold))
  k_steps
  exact hret _ _ _ _ (by k_asm) (by k_asm) ⟨rfl, _, rfl⟩
end Mine

namespace Mine
open PySem PySem.W PyProof.Rows
-- lines without use: the walk keeps its table of lines for as long as their number is the same
local macro_rules | `(tactic| walk_at "mine line 0") => `(tactic| fail)
local macro_rules | `(tactic| walk_at "mine line 1") => `(tactic| fail)
local macro_rules | `(tactic| walk_at "mine line 2") => `(tactic| fail)
local macro_rules | `(tactic| walk_at "mine enter") => `(tactic| (
  (refine' code_def ?k1 ?k2 ?k3 ?k4 ?k5 ?kA ?kF ?kK ?k6 ?k7 ?k8 ?k9 ?kB ?_ ?c2 ?c3 ?c4 ?c5; (case kA => exact rfl); (case kF => exact rfl); (case kK => assumption); (case k1 => k_asm); (case k2 => k_asm); (case k3 => k_asm); (case k4 => k_asm); (case k5 => k_asm); (case k6 => k_is); (case k7 => k_is); (case k8 => ktr_room); (case k9 => exact BindsTo.of_eq rfl); (case c5 => decide); (case kB => exact locs rfl); (case c2 => exact rfl); (case c3 => exact rfl); (case c4 => exact rfl); k_whole)))

theorem news_swap {h₀ h : Heap} {L : Addr} {x y : Addr × Obj} {l : List (Addr × Obj)} (N : News h₀ L h (x :: y :: l)) : News h₀ L h (y :: x :: l) := fun p hp => by
  rcases List.mem_cons.mp hp with rfl | hp
  · exact N _ (List.mem_cons_of_mem _ (List.mem_cons_self ..))
  · rcases List.mem_cons.mp hp with rfl | hp
    · exact N _ (List.mem_cons_self ..)
    · exact N _ (List.mem_cons_of_mem _ (List.mem_cons_of_mem _ hp))
def Hold (P : Prop) : Prop := P
theorem hold {P : Prop} (h : Hold P) : P := h
theorem news_tail {h₀ h : Heap} {L : Addr} {x : Addr × Obj} {l : List (Addr × Obj)} (N : News h₀ L h (x :: l)) : News h₀ L h l := news_sub N sub_tail
theorem ne_gt {a b : Nat} (h : b < a) : a ≠ b := Nat.ne_of_gt h
theorem ne_lt {a b : Nat} (h : a < b) : a ≠ b := Nat.ne_of_lt h
theorem off_cons {p : Addr × Obj} {own : List (Addr × Obj)} {a : Addr} (h : p.1 ≠ a) (k : OwnOff own [a]) : OwnOff (p :: own) [a] := fun q hq b hb => by
  rcases List.mem_cons.mp hq with rfl | hq
  · rw [List.mem_singleton.mp hb]; exact h
  · exact k q hq b hb

local macro_rules | `(tactic| walk_at "call ref") => `(tactic| (
  k_dflt (refine' Ret.use (take_ok _ _ (_ :: _) _ _ _ _ _ _ _ ?h0 ?h1 ?h2 ?h3 ?h4 ?h5) ?k1 ?k2 ?k3 ?k4 ?k5 ?kK ?kd ?ku ?_; (case k1 => k_asm); (case k2 => k_asm); (case k3 => k_asm); (case k4 => exact news_swap (by k_asm)); (case k5 => k_asm); (case kK => first | exact rfl | assumption); (case kd => ktr_room); (case ku => ktr_units); (case h0 => assumption); (case h1 => assumption); (case h2 => assumption); (case h3 => decide); (case h4 => decide); (case h5 => exact off_cons (by assumption) (by assumption)));
  intro r9 n9 h9 tk9 F9 N9 P9; obtain ⟨x9, t9, a9, b9, ta9, tb9, n9', e9, l9, g9, z9, y9, w9, f9⟩ := P9; subst e9; subst f9; (try dsimp only); (try k_fold)))

theorem sub_skip {p r : Addr × Obj} {l : List (Addr × Obj)} : ∀ q ∈ r :: l, q ∈ r :: p :: l := fun q h => by
  rcases List.mem_cons.mp h with rfl | h
  · exact List.mem_cons_self ..
  · exact List.mem_cons_of_mem _ (List.mem_cons_of_mem _ h)
theorem menu4 {x0 x1 x2 x3 x : Int} (h : 0 ≤ x) (k : x < 4) : [x0, x1, x2, x3].getD x.toNat 0 = x0 ∨ [x0, x1, x2, x3].getD x.toNat 0 = x1 ∨ [x0, x1, x2, x3].getD x.toNat 0 = x2 ∨ [x0, x1, x2, x3].getD x.toNat 0 = x3 := by
  have : x = 0 ∨ x = 1 ∨ x = 2 ∨ x = 3 := by omega
  rcases this with rfl | rfl | rfl | rfl
  · exact .inl rfl
  · exact .inr (.inl rfl)
  · exact .inr (.inr (.inl rfl))
  · exact .inr (.inr (.inr rfl))

set_option maxRecDepth 100000 in
set_option maxHeartbeats 8000000 in
theorem one_ok (w : World) (src th : Addr) (own : List (Addr × Obj)) (a b x0 x1 x2 x3 : Int) (ta tb t0 t1 t2 t3 : Tok) (n n2 : Nat) (h0 : 0 ≤ a) (h1 : 0 ≤ b) (h2 : b < 2147483647) (hown : OwnOff own [src]) (hne : th ≠ src) :
   Ret 2 w 54 [.ref src, .ref th] ((th, listOf #[.int x0 t0, .int x1 t1, .int x2 t2, .int x3 t3] n2) :: (src, listOf #[.int a ta, .int b tb] n) :: own)
     (fun r news' => ∃ x t a' b' ta' tb' n', r = .int x t ∧ (x = x0 ∨ x = x1 ∨ x = x2 ∨ x = x3) ∧ 0 ≤ a' ∧ 0 ≤ b' ∧ b' < 2147483647 ∧ news' = ((src, listOf #[.int a' ta', .int b' tb'] n') :: own)) := by
  w_top off
  unfold Ret
  intro mean mg mb dp un gd cn cs aF ccd cl outer A₀ base h₀ L m s Q E B F X N T hk hd hu hret
  refine wpAny_call ?_
  k_dflt (walk_at "mine enter"; intro g' L' h' FG' F' N' B' X' T'; (try dsimp only); (try k_fold))
  k_steps
  exact hret _ _ _ _ (by k_asm) (news_sub (by k_asm) sub_skip) ⟨_, _, _, _, _, _, _, rfl, menu4 (by assumption) (by assumption), by assumption, by assumption, by assumption, rfl⟩
end Mine

namespace Mine
open PySem PySem.W PyProof.Rows PySem.Calls
set_option maxRecDepth 100000

theorem list_getattribute_slot : True := trivial
section
variable {prog : Program} {w : World} {A : Around} {E : Value → Shared → Prop}
theorem keys_none : typeLookup (.type "list") "keys" = pure none := by rw [typeLookup_type, builtinLookup_eq_fast]; kernel_rfl
theorem keys_miss {s : Shared} {a : Addr} {xs : Array Value} {k : Nat} {Q : Option Value → Shared → Prop}
    (hx : s.heap.get? a = some { cls := .type "list", data := .seq xs k }) (hA : A.handled = none)
    (h : ∀ h' tk, (∀ b o, s.heap.get? b = some o → h'.get? b = some o) → Q none { s with heap := h', toks := tk }) :
    wpAny (model prog w) A (getAttr? (.ref a) "keys") Q E s := by
  obtain ⟨hp, g, d, tk, os⟩ := s
  have hT : ∀ tk', (⟨hp, g, d, tk', os⟩ : Shared).TypeIs (.ref a) "list" := fun _ => ⟨_, hx, rfl⟩
  have f1 := sub_AttributeError
  have f3 := F.slot_list_getattribute.lookup
  have f4 := F.slot_list_getattribute.bind (.ref a)
  have f5 := am_list_getattr_none
  unfold getAttr? getAttrBy? getAttrBy
  repeat (any_goals (first | assumption | exact hT _ | ((with_reducible show wpAny _ _ (call (Value.builtin "list.__getattribute__") _ _) _ _ _); refine call_meets F.slot_list_getattribute (hT _) am_entry_list_getattribute (F.args_list_getattribute_2 _ _) (meets_getattribute_miss_list a xs k _ "keys" _ keys_none (by decide) (by decide)) ⟨hx, hA, fun h' tk' e hx' => ?_⟩) | wp_step))
  obtain ⟨t', u', he⟩ := hx'.there
  show wpAny _ _ (getattributeRaised _ _ _ _ _ _ _) _ _ _
  unfold getattributeRaised
  repeat (any_goals (first | assumption | wp_step))
  exact h _ _ hx'.of.keeps

/-- the tuples that a list of pairs holds -/
def PairsIn (h : Heap) : List Value → List (Int × Int) → Prop
  | [], [] => True
  | v :: vs, c :: cs => (∃ t tk tg, v = .ref t ∧ h.IsTuple t #[.int c.1 tk, .int c.2 tg]) ∧ PairsIn h vs cs
  | _, _ => False
theorem PairsIn.mono {h h' : Heap} (hk : ∀ b o, h.get? b = some o → h'.get? b = some o) : ∀ {vs : List Value} {cs : List (Int × Int)}, PairsIn h vs cs → PairsIn h' vs cs
  | [], [], x => x
  | _ :: _, _ :: _, ⟨⟨t, tk, tg, e, ⟨o, ho, r⟩⟩, r'⟩ => ⟨⟨t, tk, tg, e, ⟨o, hk _ _ ho, r⟩⟩, PairsIn.mono hk r'⟩
theorem PairsIn.length {h : Heap} : ∀ {vs : List Value} {cs : List (Int × Int)}, PairsIn h vs cs → vs.length = cs.length
  | [], [], _ => rfl
  | _ :: _, _ :: _, ⟨_, r⟩ => by rw [List.length_cons, List.length_cons, PairsIn.length r]
theorem PairsIn.get {h : Heap} : ∀ {vs : List Value} {cs : List (Int × Int)} {i : Nat} {c : Int × Int}, PairsIn h vs cs → cs[i]? = some c → ∃ t tk tg, vs[i]? = some (.ref t) ∧ h.IsTuple t #[.int c.1 tk, .int c.2 tg]
  | _ :: _, _ :: _, 0, c, ⟨⟨t, tk, tg, e, h⟩, _⟩, hc => by
    have e2 : _ = c := Option.some.inj hc
    subst e2
    exact ⟨t, tk, tg, by rw [e]; rfl, h⟩
  | _ :: _, _ :: _, i + 1, c, ⟨_, r⟩, hc => PairsIn.get (i := i) r hc
  | [], [], i, c, _, hc => by simp at hc
theorem PairsIn.but {h h' : Heap} {d it : Addr} (hk : ∀ b o, b ≠ d → b ≠ it → h.get? b = some o → h'.get? b = some o) : ∀ {vs : List Value} {cs : List (Int × Int)}, (∀ t : Addr, Value.ref t ∈ vs → t ≠ d ∧ t ≠ it) → PairsIn h vs cs → PairsIn h' vs cs
  | [], [], _, x => x
  | _ :: _, _ :: _, hne, ⟨⟨t, tk, tg, e, ⟨o, ho, r⟩⟩, r'⟩ => by
    subst e
    have z := hne t (List.mem_cons_self ..)
    exact ⟨⟨t, tk, tg, rfl, ⟨o, hk _ _ z.1 z.2 ho, r⟩⟩, PairsIn.but hk (fun t ht => hne t (List.mem_cons_of_mem _ ht)) r'⟩

theorem entry_dul : entryFor table "dict.update.loop" = some Builtin.«dict.update.loop» := entryFor_of_tree (by kernel_rfl)
theorem plain_dul : plainId "dict.update.loop" = true := by decide +kernel

theorem pair_items {s : Shared} {t : Addr} {x y : Value} {Q : List Value → Shared → Prop} (ht : s.heap.IsTuple t #[x, y]) (h : Q [x, y] s) : wpAny (model prog w) A (Builtin.Dict.pairItems (.ref t)) Q E s := by
  unfold Builtin.Dict.pairItems
  refine wpAny_bind (wpAny_typeOf ht.typeIs ?_)
  rw [if_pos (by decide)]
  obtain ⟨o, ho, _, n, hd⟩ := ht
  exact wpAny_bind (wpAny_seqItems ho hd (wpAny_pure h))

theorem put_new {c : List (Int × Int)} {k v : Int} (h : k ∉ c.map (·.1)) : kdfPut c k v = c ++ [(k, v)] := by
  unfold kdfPut
  rw [if_neg]
  intro hc
  obtain ⟨p, hp, e⟩ := List.any_eq_true.mp hc
  exact h (List.mem_map.mpr ⟨p, hp, by simpa using e⟩)

/-- the turns of dict(pairs): from place i on -/
theorem dul_loop {d l it : Addr} {vs : List Value} {cs : List (Int × Int)} {R : Result → Shared → Prop} (hA : A.handled = none) (hdi : d ≠ it) (hli : l ≠ it) (hld : l ≠ d) (hn : cs.length ≤ 1000) (hnd : (cs.map (·.1)).Nodup)
    (hne : ∀ t : Addr, Value.ref t ∈ vs → t ≠ d ∧ t ≠ it) :
    ∀ (j i : Nat) (kvs : List (Int × Value)) (u : Tok) (s : Shared), i + j = cs.length → s.heap.IsListIter it l i → s.heap.IsList l vs.toArray → PairsIn s.heap vs cs →
      s.heap.DictOf (PySem.intKind prog w) d kvs → PyProof.V.FlatPairs PyData.int kvs (kdfD (cs.take i)) →
      (∀ h' tk kvs', h'.DictOf (PySem.intKind prog w) d kvs' → PyProof.V.FlatPairs PyData.int kvs' (kdfD cs) → (∀ b o, b ≠ d → b ≠ it → s.heap.get? b = some o → h'.get? b = some o) → R (.ok (.ret .none)) { s with heap := h', toks := tk }) →
      codeAny (model prog w) A (.builtin "dict.update.loop" ⟨[.ref d, .ref it, .int (i : Int) u, .none], []⟩) R s := by
  intro j
  induction j with
  | zero =>
    intro i kvs u s hij hit hl hp hd hf hR
    refine codeAny_builtin entry_dul ?_
    rw [Around.under_plainId plain_dul _]
    unfold Builtin.«dict.update.loop»
    dsimp only
    have hlen := hp.length
    refine wpAny_bind (wpAny_pyNext_list_end (items := vs.toArray) hA hit hl (by simp; omega) fun h' hk => ?_)
    dsimp only
    have hi : cs.take i = cs := List.take_of_length_le (by omega)
    rw [hi] at hf
    show wpAny _ _ (Builtin.Dict.addKeywords d [] >>= _) _ _ _
    refine wpAny_bind (wpAny_pure (wpAny_pure ?_))
    exact hR h' s.toks kvs (hd.at fun o e => hk _ _ hdi e) hf fun b o _ hb e => hk b o hb e
  | succ j ih =>
    intro i kvs u s hij hit hl hp hd hf hR
    have hlt : i < cs.length := by omega
    obtain ⟨c, hc⟩ : ∃ c, cs[i]? = some c := ⟨cs[i], by simp [hlt]⟩
    obtain ⟨t, tk, tg, hv, ht⟩ := hp.get hc
    have hmem : Value.ref t ∈ vs := List.mem_of_getElem? hv
    have hnet := hne t hmem
    refine codeAny_builtin entry_dul ?_
    rw [Around.under_plainId plain_dul _]
    unfold Builtin.«dict.update.loop»
    dsimp only
    refine wpAny_bind (wpAny_pyNext_list_item hit hl (x := .ref t) (by simpa using hv) fun h₁ hit₁ hs₁ => ?_)
    dsimp only
    have ht₁ : h₁.IsTuple t #[.int c.1 tk, .int c.2 tg] := ht.at fun o e => (hs₁.2 t hnet.2).trans e
    have hd₁ := hd.sameBut hs₁ hdi
    refine wpAny_bind (wpAny_holding (wpAny_bind (wpAny_tryCatch (pair_items (s := { s with heap := h₁ }) ht₁ ?_))))
    dsimp only
    have hlen : (kdfD (cs.take i)).length = kvs.length := hf.length
    have hsz : kvs.length ≤ sizeLine := by
      rw [kdfD_length, List.length_take] at hlen
      rw [sizeLine_eq]; omega
    refine wpAny_holding (wpAny_dictSet_pairs (s := { s with heap := h₁ }) (intKind_is _ _ c.1 tk) hd₁ (fun h₂ hd₂ hs₂ => ?_) hsz)
    refine wpAny_pure ⟨plainId_quiet plain_dul _, ?_⟩
    have hf₂ := hf.stored PyProof.V.same_int c.1 (PyProof.V.Flat.int c.2 tg)
    have hnot : c.1 ∉ (cs.take i).map (·.1) := by
      intro hm
      have e1 : cs = cs.take i ++ c :: cs.drop (i + 1) := by
        have := List.take_append_drop i cs
        rw [List.drop_eq_getElem_cons hlt] at this
        have e : cs[i] = c := by
          have := List.getElem?_eq_getElem hlt
          rw [hc] at this
          exact (Option.some.inj this).symm
        rw [e] at this
        exact this.symm
      rw [e1, List.map_append, List.nodup_append] at hnd
      exact hnd.2.2 _ hm _ (by simp) rfl
    rw [kdfD_put, put_new hnot] at hf₂
    have e2 : cs.take i ++ [(c.1, c.2)] = cs.take (i + 1) := by rw [List.take_add_one, hc]; rfl
    rw [e2] at hf₂
    have hk₂ : ∀ b o, b ≠ d → b ≠ it → s.heap.get? b = some o → h₂.get? b = some o := fun b o h1 h2 e => (hs₂.2 b h1).trans ((hs₁.2 b h2).trans e)
    have := ih (i + 1) _ 0 { s with heap := h₂, toks := s.toks + 1 } (by omega) (hit₁.at fun o e => (hs₂.2 it (Ne.symm hdi)).trans e) (hl.at fun o e => hk₂ _ _ hld hli e) (hp.but hk₂ hne) hd₂ hf₂
      (fun h' tk kvs' a b k => hR h' tk kvs' a b fun b o h1 h2 e => k b o h1 h2 (hk₂ b o h1 h2 e))
    simpa [rawInt] using this

theorem call_dict_pairs {l : Addr} {vs : List Value} {cs : List (Int × Int)} {n : Nat} {s : Shared} {Q : Value → Shared → Prop} (hA : A.handled = none) (hl : s.heap.get? l = some (listOf vs.toArray n)) (hp : PairsIn s.heap vs cs) (hn : cs.length ≤ 1000) (hnd : (cs.map (·.1)).Nodup)
    (h : ∀ h' tk kvs', h'.DictOf (PySem.intKind prog w) s.heap.objs.size kvs' → PyProof.V.FlatPairs PyData.int kvs' (kdfD cs) → (∀ b o, s.heap.get? b = some o → h'.get? b = some o) → Q (.ref s.heap.objs.size) { s with heap := h', toks := tk }) :
    wpAny (model prog w) A (call (.type "dict") [.ref l]) Q E s := by
  refine callType_codes (Q₁ := fun obj s₁ => obj = .ref s.heap.objs.size ∧ s₁ = { s with heap := s.heap.push { cls := .type "dict", data := .dict #[] } }) F.kt_called_dict (F.kt_typeCall_dict_1 _) F.entry_dict_init (kt_code_dict_new _ ⟨rfl, rfl⟩) ?_
  rintro obj s₁ ⟨rfl, rfl⟩
  have hnew : (s.heap.push { cls := .type "dict", data := .dict #[] }).DictOf (PySem.intKind prog w) s.heap.objs.size [] := Heap.DictOf.new s.heap
  have old : ∀ b o, s.heap.get? b = some o → (s.heap.push { cls := .type "dict", data := .dict #[] }).get? b = some o := fun b o e => Heap.get?_push_of_some _ e
  have hl₁ := old _ _ hl
  refine ⟨hnew.typeIs, F.args_dict_init_2 _ _, ?_⟩
  unfold Builtin.«dict.__init__»
  refine wpAny_bind ?_
  unfold Builtin.Dict.selfAndRest
  refine wpAny_bind (wpAny_notOrdered_dict hnew.typeIs ?_)
  show wpAny _ _ (pure (s.heap.objs.size, [Value.ref l])) _ _ _
  refine wpAny_pure ?_
  show wpAny _ _ (Builtin.Dict.updateFrom "dict.__init__" s.heap.objs.size (.ref l) [] .none) _ _ _
  unfold Builtin.Dict.updateFrom
  refine wpAny_bind (wpAny_typeOf (T := "list") ⟨_, hl₁, rfl⟩ ?_)
  rw [if_pos (by decide)]
  refine wpAny_bind (keys_miss hl₁ hA fun h₂ tk₂ hk₂ => ?_)
  dsimp only
  rw [if_pos (by rfl)]
  refine wpAny_bind (wpAny_rule ?_)
  have hl₂ : h₂.IsList l vs.toArray := ⟨_, hk₂ _ _ hl₁, rfl, n, rfl⟩
  refine wpAny_bind (wpAny_pyIter_list hl₂ ?_)
  refine wpAny_pure ⟨plainId_quiet plain_dul _, ?_⟩
  have up : ∀ b o, s.heap.get? b = some o → (h₂.push { cls := .type "list_iterator", data := .fields #[.ref l, .int 0 0] }).get? b = some o := fun b o e => Heap.get?_push_of_some _ (hk₂ _ _ (old _ _ e))
  have ll : l < s.heap.objs.size := Heap.lt_size hl
  have ld : s.heap.objs.size < h₂.objs.size := by
    obtain ⟨o, ho, _⟩ := Heap.dictOf_iff.mp hnew
    exact Heap.lt_size (hk₂ _ _ ho)
  have hlt : ∀ t : Addr, Value.ref t ∈ vs → t < s.heap.objs.size := by
    intro t ht
    obtain ⟨i, hi, e⟩ := List.getElem_of_mem ht
    have hi' : i < cs.length := by rw [← hp.length]; exact hi
    obtain ⟨t', _, _, e1, o, ho, _⟩ := hp.get (List.getElem?_eq_getElem hi')
    have e2 : vs[i]? = some (.ref t) := by rw [List.getElem?_eq_getElem hi, e]
    rw [e1] at e2
    cases e2
    exact Heap.lt_size ho
  have hd₂ : (h₂.push { cls := .type "list_iterator", data := .fields #[.ref l, .int 0 0] }).DictOf (PySem.intKind prog w) s.heap.objs.size [] := hnew.at fun o e => Heap.get?_push_of_some _ (hk₂ _ _ e)
  refine dul_loop (A := A.in1) (prog := prog) (w := w) (vs := vs) (cs := cs) hA (Nat.ne_of_lt ld) (Nat.ne_of_lt (Nat.lt_trans ll ld)) (Nat.ne_of_lt ll) hn hnd (fun t ht => ⟨Nat.ne_of_lt (hlt t ht), Nat.ne_of_lt (Nat.lt_trans (hlt t ht) ld)⟩) cs.length 0 [] 0 { s with heap := h₂.push { cls := .type "list_iterator", data := .fields #[.ref l, .int 0 0] }, toks := tk₂ } (by omega) ⟨_, Heap.get?_push_size _ rfl, rfl, rfl⟩ (hl₂.at fun o e => Heap.get?_push_of_some _ e) (hp.mono up) hd₂ .nil ?_
  intro h' tk kvs' a b k
  refine ⟨rfl, ?_⟩
  exact h h' tk kvs' a b fun c o e => k c o (Nat.ne_of_lt (Heap.lt_size e)) (Nat.ne_of_lt (Nat.lt_trans (Heap.lt_size e) ld)) (up _ _ e)

theorem dict_pairs {h₀ : Heap} {L l : Addr} {m : Str → Option Value} {news : List (Addr × Obj)} {vs : List Value} {cs : List (Int × Int)} {n : Nat} {s : Shared} {Q : Value → Shared → Prop} (hA : A.handled = none) (F : Fr h₀ L s.heap m) (N : News h₀ L s.heap news) (hl : (l, listOf vs.toArray n) ∈ news) (hp : PairsIn s.heap vs cs) (hn : cs.length ≤ 1000) (hnd : (cs.map (·.1)).Nodup) (hbig : sysModules < h₀.objs.size)
    (h : ∀ d h' tk o kvs', Fr h₀ L h' m → News h₀ L h' ((d, o) :: news) → (∀ p ∈ news, p.1 < d) → (d == sysModules) = false → o.IsDictOf (PySem.intKind prog w) kvs' → PyProof.V.FlatPairs PyData.int kvs' (kdfD cs) → Q (.ref d) { s with heap := h', toks := tk }) :
    wpAny (model prog w) A (call (.type "dict") [.ref l]) Q E s := by
  refine call_dict_pairs hA (N _ hl).1 hp hn hnd fun h' tk kvs' hd hf hk => ?_
  obtain ⟨o, ho, hd'⟩ := Heap.dictOf_iff.mp hd
  refine h _ h' tk o kvs' (F.keeps hk) (fun p hp => ?_) (fun p hp => Heap.lt_size (N p hp).1) (F.notModules hbig) hd' hf
  rcases List.mem_cons.mp hp with rfl | hp
  · refine ⟨ho, Nat.ne_of_gt F.ns.lt, ?_⟩
    cases e : h₀.get? s.heap.objs.size with
    | none => rfl
    | some o' => exact absurd (Heap.lt_size (F.keep _ _ e)) (Nat.lt_irrefl _)
  · exact ⟨hk _ _ (N p hp).1, (N p hp).2⟩
end
end Mine

namespace Mine
open PySem PySem.W PyProof.Rows
-- lines without use: the walk keeps its table of lines for as long as their number is the same
local macro_rules | `(tactic| walk_at "mine line 0") => `(tactic| fail)
local macro_rules | `(tactic| walk_at "mine line 1") => `(tactic| fail)
local macro_rules | `(tactic| walk_at "mine line 2") => `(tactic| fail)
local macro_rules | `(tactic| walk_at "mine line 3") => `(tactic| fail)
local macro_rules | `(tactic| walk_at "mine line 4") => `(tactic| fail)
local macro_rules | `(tactic| walk_at "mine enter") => `(tactic| (
  (refine' code_def ?k1 ?k2 ?k3 ?k4 ?k5 ?kA ?kF ?kK ?k6 ?k7 ?k8 ?k9 ?kB ?_ ?c2 ?c3 ?c4 ?c5; (case kA => exact rfl); (case kF => exact rfl); (case kK => assumption); (case k1 => k_asm); (case k2 => k_asm); (case k3 => k_asm); (case k4 => k_asm); (case k5 => k_asm); (case k6 => k_is); (case k7 => k_is); (case k8 => ktr_room); (case k9 => exact BindsTo.of_eq rfl); (case c5 => decide); (case kB => exact locs rfl); (case c2 => exact rfl); (case c3 => exact rfl); (case c4 => exact rfl); k_whole)))

local macro_rules | `(tactic| walk_at "call ref") => `(tactic| (
  k_dflt (refine' Ret.use (take_ok _ _ (_ :: _) _ _ _ _ _ _ _ ?h0 ?h1 ?h2 ?h3 ?h4 ?h5) ?k1 ?k2 ?k3 ?k4 ?k5 ?kK ?kd ?ku ?_; (case k1 => k_asm); (case k2 => k_asm); (case k3 => k_asm); (case k4 => first | k_asm | exact news_tail (by k_asm) | exact news_swap (news_tail (by k_asm))); (case k5 => k_asm); (case kK => first | exact rfl | assumption); (case kd => ktr_room); (case ku => ktr_units); (case h0 => assumption); (case h1 => assumption); (case h2 => assumption); (case h3 => decide); (case h4 => decide); (case h5 => exact off_cons (by first | assumption | exact ne_gt (by omega) | exact ne_lt (by omega)) (by assumption)));
  intro r9 n9 h9 tk9 F9 N9 P9; obtain ⟨x9, t9, a9, b9, ta9, tb9, n9', e9, l9, g9, z9, y9, w9, f9⟩ := P9; subst e9; subst f9; (try dsimp only); (try k_sweep); (try k_fold)))
local macro_rules | `(tactic| walk_at "call ref") => `(tactic| (
  k_dflt (refine' Ret.use (one_ok _ _ _ _ _ _ _ _ _ _ _ _ _ _ _ _ _ _ ?h0 ?h1 ?h2 ?h3 ?h4) ?k1 ?k2 ?k3 ?k4 ?k5 ?kK ?kd ?ku ?_; (case k1 => k_asm); (case k2 => k_asm); (case k3 => k_asm); (case k4 => k_asm); (case k5 => k_asm); (case kK => first | exact rfl | assumption); (case kd => ktr_room); (case ku => ktr_units); (case h0 => assumption); (case h1 => assumption); (case h2 => assumption); (case h3 => first | assumption | exact off_cons (by first | assumption | exact ne_gt (by omega) | exact ne_lt (by omega)) (by assumption)); (case h4 => first | assumption | exact ne_gt (by omega) | exact ne_lt (by omega)));
  intro r9 n9 h9 tk9 F9 N9 P9; obtain ⟨x9, t9, a9, b9, ta9, tb9, n9', e9, m9, z9, y9, w9, f9⟩ := P9; subst e9; subst f9; (try dsimp only); (try k_sweep); (try k_fold)))

local macro_rules | `(tactic| walk_at "call type:range") => `(tactic| ((rename Fr _ _ _ _ => F'); (rename News _ _ _ _ => N'); first
  | (with_unfolding_all refine range1_rows F' N' ?_; intro _ _ _ _ _ _ _ _ _)
  | (with_unfolding_all refine range2_rows F' N' ?_; intro _ _ _ _ _ _ _ _ _)))
local macro_rules | `(tactic| walk_at "subscriptTail Name Slice ref ref") => `(tactic| (k_here; (with_reducible show wpAny _ _ (subscriptTail _ (PySem.Expr.Slice none none (some _) _) (Value.ref _) (Value.ref _)) _ _ _); k_dflt (refine' krv_lit ?F ?N ?l ?k ?e ?_ ?s ?t ?z; (case F => k_asm); (case N => k_asm); (case l => kmk_list); (case k => exact IsPart.int _ _); (case e => (rw [List.toList_toArray])); (case s => with_unfolding_all rfl); (case t => kmk_pure); (case z => (rw [List.size_toArray, sizeLine_eq]; omega))); intro D' h' F' N' l1; (try k_lt l1); (try k_sweep)))
local macro_rules | `(tactic| walk_at "call type:dict") => `(tactic| refine hold ?_)
local macro_rules | `(tactic| walk_at "pyIter ref") => `(tactic| refine hold ?_)

structure CSt where
  vs : List Value
  cs : List (Int × Int)
  code : Int
  tc : Tok
  a : Int
  b : Int
  ta : Tok
  tb : Tok
  n : Nat
  np : Nat
theorem off_app {l l' : List (Addr × Obj)} {adr : List Addr} (h : OwnOff l adr) (k : OwnOff l' adr) : OwnOff (l ++ l') adr := fun p hp b hb => by
  rcases List.mem_append.mp hp with hp | hp
  · exact h p hp b hb
  · exact k p hp b hb
theorem glyph_fits {g r k : Int} (hg : g = 0 ∨ g = 1 ∨ g = 7 ∨ g = 65534) (hr : r = 1 ∨ r = 1 ∨ r = 5 ∨ r = 0) (h0 : 0 ≤ k) (h4 : k < 4) : 0 ≤ g + r * k ∧ g + r * k < 4294967296 := by
  rcases hr with rfl | rfl | rfl | rfl <;> omega
/-- the list's items are tuples of two ints, made by the call -/
def Tups (S : Addr × Obj → Prop) : List Value → List (Int × Int) → Prop
  | [], [] => True
  | v :: vs, c :: cs => (∃ t tk tg, v = .ref t ∧ S (t, ({ cls := .type "tuple", data := .seq #[.int c.1 tk, .int c.2 tg] } : Obj))) ∧ Tups S vs cs
  | _, _ => False
theorem Tups.mono {S S' : Addr × Obj → Prop} (hs : ∀ p, S p → S' p) : ∀ {vs : List Value} {cs : List (Int × Int)}, Tups S vs cs → Tups S' vs cs
  | [], [], h => h
  | _ :: _, _ :: _, ⟨⟨t, tk, tg, e, h⟩, r⟩ => ⟨⟨t, tk, tg, e, hs _ h⟩, Tups.mono hs r⟩
theorem Tups.snoc {S : Addr × Obj → Prop} {t : Addr} {k g : Int} {tk tg : Tok} (hm : S (t, ({ cls := .type "tuple", data := .seq #[.int k tk, .int g tg] } : Obj))) : ∀ {vs : List Value} {cs : List (Int × Int)}, Tups S vs cs → Tups S (vs ++ [.ref t]) (cs ++ [(k, g)])
  | [], [], _ => ⟨⟨t, tk, tg, rfl, hm⟩, trivial⟩
  | _ :: _, _ :: _, ⟨h, r⟩ => ⟨h, Tups.snoc hm r⟩
theorem Tups.length {S : Addr × Obj → Prop} : ∀ {vs : List Value} {cs : List (Int × Int)}, Tups S vs cs → vs.length = cs.length
  | [], [], _ => rfl
  | _ :: _, _ :: _, ⟨_, r⟩ => by rw [List.length_cons, List.length_cons, Tups.length r]
theorem Tups.reverse {S : Addr × Obj → Prop} : ∀ {vs : List Value} {cs : List (Int × Int)}, Tups S vs cs → Tups S vs.reverse cs.reverse
  | [], [], h => h
  | v :: vs, c :: cs, ⟨⟨t, tk, tg, e, h⟩, r⟩ => by
    rw [List.reverse_cons, List.reverse_cons, e]
    exact Tups.snoc h (Tups.reverse r)
theorem Tups.pairs {nw : List (Addr × Obj)} {h₀ h : Heap} {L : Addr} (N : News h₀ L h nw) : ∀ {vs : List Value} {cs : List (Int × Int)}, Tups (· ∈ nw) vs cs → PairsIn h vs cs
  | [], [], x => x
  | _ :: _, _ :: _, ⟨⟨t, tk, tg, e, hm⟩, r⟩ => ⟨⟨t, tk, tg, e, _, (N _ hm).1, rfl, 0, rfl⟩, Tups.pairs N r⟩
def Rising (lo hi : Int) (cs : List (Int × Int)) : Prop := (∀ p ∈ cs, lo ≤ p.1 ∧ p.1 < hi ∧ 0 ≤ p.2 ∧ p.2 < 4294967296) ∧ (cs.map (·.1)).Pairwise (· < ·)
theorem Rising.snoc {lo hi g : Int} {cs : List (Int × Int)} (h : Rising lo hi cs) (hl : lo ≤ hi) (hg : 0 ≤ g ∧ g < 4294967296) : Rising lo (hi + 1) (cs ++ [(hi, g)]) := by
  refine ⟨fun p hp => ?_, ?_⟩
  · rcases List.mem_append.mp hp with hp | hp
    · have := h.1 p hp; omega
    · rw [List.mem_singleton.mp hp]; dsimp only; omega
  · rw [List.map_append]
    refine List.pairwise_append.mpr ⟨h.2, List.pairwise_singleton _ _, ?_⟩
    intro a ha b hb
    obtain ⟨p, hp, rfl⟩ := List.mem_map.mp ha
    rw [List.mem_singleton.mp hb]
    exact (h.1 p hp).2.1
theorem Rising.up {lo hi hi' : Int} {cs : List (Int × Int)} (h : Rising lo hi cs) (hl : hi ≤ hi') : Rising lo hi' cs := ⟨fun p hp => by have := h.1 p hp; omega, h.2⟩
structure ISt where
  vs : List Value
  cs : List (Int × Int)
  code : Int
  tc : Tok
  np : Nat
def IInv (x0 code : Int) (len : Nat) (k : Nat) (c : ISt) : Prop := c.code = code + (k : Int) ∧ c.cs.length = len + k ∧ Rising x0 c.code c.cs
def CInv (x0 : Int) (k : Nat) (c : CSt) : Prop := 0 ≤ c.a ∧ 0 ≤ c.b ∧ c.b < 2147483647 ∧ x0 ≤ c.code ∧ c.code ≤ x0 + 7 * (k : Int) ∧ c.cs.length ≤ 4 * k ∧ Rising x0 c.code c.cs
theorem Rising.nil {lo hi : Int} : Rising lo hi [] := ⟨fun _ h => (nomatch h), List.Pairwise.nil⟩

set_option maxRecDepth 100000 in
set_option maxHeartbeats 8000000 in
theorem codes_ok (w : World) (src : Addr) (own : List (Addr × Obj)) (a b : Int) (ta tb : Tok) (n : Nat) (h0 : 0 ≤ a) (h1 : 0 ≤ b) (h2 : b < 2147483647) (hown : OwnOff own [src]) :
   Ret 3 w 61 [.ref src] ((src, listOf #[.int a ta, .int b tb] n) :: own)
     (fun r news' => ∃ d o kvs c a' b' ta' tb' n', r = .ref d ∧ 0 ≤ a' ∧ 0 ≤ b' ∧ b' < 2147483647 ∧ o.IsDictOf (PySem.intKind PySem.Challenge.rw_xm0702_01.row.prog w) kvs ∧ PyProof.V.FlatPairs PyData.int kvs (kdfD c) ∧ (c.map (·.1)).Nodup ∧ (∀ p ∈ c, 0 ≤ p.1 ∧ p.1 < 4294967296 ∧ 0 ≤ p.2 ∧ p.2 < 4294967296) ∧ c.length ≤ 16 ∧ (∀ p ∈ own, p.1 ≠ d) ∧ src ≠ d ∧ (d == sysModules) = false ∧
       news' = ((d, o) :: (src, listOf #[.int a' ta', .int b' tb'] n') :: own)) := by
  w_top off
  unfold Ret
  intro mean mg mb dp un gd cn cs aF ccd cl outer A₀ base h₀ L m s Q E B F X N T hk hd hu hret
  refine wpAny_call ?_
  k_dflt (walk_at "mine enter"; intro g' L' h' FG' F' N' B' X' T'; (try dsimp only); (try k_fold))
  k_steps
  rename_i x0 t0 aA bA taA tbA nA hx0 _ _ _ _ _ P hB lP D hC lD hD hE hF h9 tk9 F9 k5 tk5 a1 b1 ta1 tb1 n1 hk0 hk5 ha1 hb1 hb1' N9 h10 tk10 t1 u1 v1 rg F10 N10 keep10

  have hPs : P ≠ src := ne_gt lP.1
  have hPo : OwnOff own [P] := fun p hp b hb => by rw [List.mem_singleton.mp hb]; exact ne_lt (kst_ltOf lP.2 p hp)
  unfold Hold
  with_unfolding_all refine' kd_range (σ := CSt) (fun c => [(src, listOf #[.int c.a c.ta, .int c.b c.tb] c.n), (P, listOf c.vs.toArray c.np)]) own (fun c => [(Str.ofString "code", .int c.code c.tc)]) (fun nw c => Tups (· ∈ nw) c.vs c.cs) [Str.ofString "glyph", Str.ofString "rise", Str.ofString "step"] (fun pre c => CInv x0 pre.length c) (src :: P :: own.map (·.1)) ⟨[], [], x0, t0, a1, b1, ta1, tb1, n1, 0⟩ (by rfl) rg (small_one (by omega) (by omega) (by omega) (by omega)) (rangeSize_nat _ _) F10 N10 ?ki ?ka ?kf ?kk ?kp ?turn ?done
  case ki => intro p hp; simpa using hp
  case ka => intro c; rfl
  case kf => trivial
  case kk => kst_all
  case kp => exact ⟨ha1, hb1, hb1', Int.le_refl _, by simp, by simp, .nil⟩
  case done =>
    intro c tl u h11 tk11 hoff hT hI F11 N11
    obtain ⟨vs, cs, code, tc, a, b, ta, tb, n, np⟩ := c
    replace F11 : Fr g' L' h11 _ := F11
    replace N11 : News g' L' h11 _ := N11
    dsimp only at hT hI F11 N11
    clear keep10 N10 F10 rg N9 F9
    obtain ⟨i1, i2, i3, i4, i5, i6, i7⟩ := hI
    rw [rangeKs_length] at i5 i6
    dsimp only at i1 i2 i3 i4 i5 i6 i7
    have hvl := hT.length
    have hvs : vs.length ≤ 16 := by omega
    have hcode : code ≤ 4294967284 := by omega
    (try k_fold)
    k_steps
    rename_i D h12 F12 N12 l12
    unfold Hold
    have hmem : ∀ p ∈ own ++ tl, p ∈ (D, listOf vs.reverse.toArray 0) :: ([(src, listOf #[.int a ta, .int b tb] n), (P, listOf vs.toArray np)] ++ (own ++ tl)) := fun p hp => List.mem_cons_of_mem _ (List.mem_append_right _ hp)
    have hrev : (cs.reverse.map (·.1)).Nodup := by
      rw [List.map_reverse]
      exact List.pairwise_reverse.mpr (i7.2.imp fun h => Int.ne_of_gt h)
    refine dict_pairs (by rfl) F12 N12 (.head _) (Tups.pairs N12 (hT.mono hmem).reverse) (by rw [List.length_reverse]; omega) hrev (modules_low (Top.nolimit T')) ?_
    intro d h13 tk13 o kvs' F13 N13 l13 hlo13 hd13 hf13
    k_steps
    refine hret _ ((d, o) :: (src, listOf #[.int a ta, .int b tb] n) :: own) _ _ (by k_asm) (news_sub (by k_asm) ?_) ⟨d, o, kvs', cs.reverse, a, b, ta, tb, n, rfl, i1, i2, i3, hd13, hf13, hrev, ?_, ?_, ?_, ?_, hlo13, rfl⟩
    · intro p hp
      simp only [List.mem_cons, List.mem_append] at hp ⊢
      rcases hp with h | h | h
      · exact .inl h
      · exact .inr (.inr (.inl (.inl h)))
      · exact .inr (.inr (.inr (.inl h)))
    · intro p hp
      have := i7.1 p (List.mem_reverse.mp hp)
      omega
    · rw [List.length_reverse]; omega
    · intro p hp
      exact ne_lt (l13 p (List.mem_cons_of_mem _ (List.mem_append_right _ (List.mem_append_left _ hp))))
    · exact ne_lt (l13 _ (List.mem_cons_of_mem _ (List.mem_append_left _ (List.mem_cons_self ..))))
  case turn =>
    intro c tl pre k t u h11 tk11 ownL hk hlt hsep hoff hT hI F11 N11
    obtain ⟨vs, cs, code, tc, a, b, ta, tb, n, np⟩ := c
    replace F11 : Fr g' L' h11 _ := F11
    replace N11 : News g' L' h11 _ := N11
    dsimp only at hT hI F11 N11
    clear keep10 N10 F10 rg N9 F9
    obtain ⟨i1, i2, i3, i4, i5, i6, i7⟩ := hI
    dsimp only at i1 i2 i3 i4 i5 i6 i7
    have hR : OwnOff (own ++ (tl ++ ownL)) [src] := off_app hown fun p hp b hb => hoff p hp b (by rw [List.mem_singleton.mp hb]; exact List.mem_cons_self ..)
    have hRP : OwnOff (own ++ (tl ++ ownL)) [P] := off_app hPo fun p hp b hb => hoff p hp b (by rw [List.mem_singleton.mp hb]; exact List.mem_cons_of_mem _ (List.mem_cons_self ..))
    generalize hRd : own ++ (tl ++ ownL) = R at N11 hR hRP
    replace N11 : News g' L' h11 ((src, listOf #[.int a ta, .int b tb] n) :: (P, listOf vs.toArray np) :: R) := N11
    (try k_fold)
    k_steps
    rename_i gl tgl _ _ _ _ _ hgl _ _ _ _ _ _ _ _ _ _ rs trs _ _ _ _ _ hrs _ _ _ _ _ _ _ _ _ _ _ h19 tk19 F19 q tq a2 b2 ta2 tb2 n2 hq0 hq4 ha2 hb2 hb2' N19 h20 tk20 t2 u2 v2 rg2 F20 N20 keep20
    unfold Hold
    clear keep20
    have hT20 : Tups (fun p => p ∈ (src, listOf #[.int a2 ta2, .int b2 tb2] n2) :: R ++ [] ∧ p ∉ (src, listOf #[.int a2 ta2, .int b2 tb2] n2) :: ownL) vs cs := hT.mono fun p hp => by
      have hpR : p ∈ R := by
        rw [← hRd]
        simp only [List.mem_append] at hp ⊢
        rcases hp with h | h
        · exact .inl h
        · exact .inr (.inl h)
      refine ⟨by simp only [List.append_nil]; exact List.mem_cons_of_mem _ hpR, fun hq => ?_⟩
      rcases List.mem_cons.mp hq with e | hq
      · exact hR p hpR src (List.mem_singleton.mpr rfl) (by rw [e])
      · rcases List.mem_append.mp hp with h | h
        · exact hsep.one p hq p.1 (List.mem_cons_of_mem _ (List.mem_cons_of_mem _ (List.mem_map.mpr ⟨p, h, rfl⟩))) rfl
        · exact hsep.two p hq p.1 (List.mem_map.mpr ⟨p, h, rfl⟩) rfl
    with_unfolding_all refine' kd_range (σ := ISt) (fun c => [(P, listOf c.vs.toArray c.np)]) ((src, listOf #[.int a2 ta2, .int b2 tb2] n2) :: R) (fun c => [(Str.ofString "code", .int c.code c.tc)]) (fun nw c => Tups (fun p => p ∈ nw ∧ p ∉ (src, listOf #[.int a2 ta2, .int b2 tb2] n2) :: ownL) c.vs c.cs) [] (fun pre c => IInv x0 code cs.length pre.length c) (P :: src :: R.map (·.1)) ⟨vs, cs, code, tc, np⟩ (by rfl) rg2 (small_one (by omega) (by omega) (by omega) (by omega)) (rangeSize_nat _ _) F20 N20 ?ki ?ka ?kf ?kk ?kp ?turn ?done
    case ki =>
      intro p hp
      simp only [List.append_nil, List.mem_cons, List.mem_append, List.not_mem_nil, or_false] at hp ⊢
      rcases hp with h | h | h
      · exact .inr (.inl h)
      · exact .inl h
      · exact .inr (.inr h)
    case ka => intro c; rfl
    case kf => exact hT20
    case kk => kst_all
    case kp => exact ⟨by simp, by simp, i7⟩
    case turn =>
      intro c tl2 pre2 k2 tk2 u21 h21 tk21 own2 hk2 hlt2 hsep2 hoff2 hT2 hI2 F21 N21
      obtain ⟨vs2, cs2, code2, tc2, np2⟩ := c
      replace F21 : Fr g' L' h21 _ := F21
      replace N21 : News g' L' h21 _ := N21
      obtain ⟨j1, j2, j3⟩ := hI2
      dsimp only at hT2 j1 j2 j3 F21 N21
      have hoff3 : OwnOff (tl2 ++ own2) [P] := fun p hp b hb => hoff2 p hp b (by rw [List.mem_singleton.mp hb]; exact List.mem_cons_self ..)
      have hR2 : OwnOff (R ++ (tl2 ++ own2)) [P] := fun p hp b hb => by
        rcases List.mem_append.mp hp with h | h
        · exact hRP p h b hb
        · exact hoff3 p h b hb
      have hvl2 := hT2.length
      generalize hR2d : R ++ (tl2 ++ own2) = R2 at hR2
      replace N21 : News g' L' h21 ((P, listOf vs2.toArray np2) :: (src, listOf #[.int a2 ta2, .int b2 tb2] n2) :: R2) := by rw [← hR2d]; exact N21
      have hvs2 : vs2.length ≤ 1000 := by omega
      have hk20 : 0 ≤ k2 := by omega
      have hk24 : k2 < 4 := by omega
      (try k_fold)
      k_steps
      rename_i D2 _ lD2 _ h22 F22 N22
      simp only [List.push_toArray] at N22
      refine' kd_end (tl := tl2) ⟨vs2 ++ [.ref D2], cs2 ++ [(code2, gl + rs * k2)], code2 + 1, ?tc, np2 + 1⟩ [(D2, { cls := .type "tuple", data := .seq #[.int code2 tc2, .int (gl + rs * k2) (tk21 + 1)] })] hsep2 F22 N22 ?hn ?ho ?hadr ?hb ?hw ?hkk ?hr ?hf ?hp
      case hkk => (with_unfolding_all exact List.forall_mem_cons.mpr ⟨by rfl, fun _ h => (nomatch h)⟩)
      case hn =>
        intro p hp
        rw [← hR2d]
        simp only [List.mem_cons, List.mem_append, List.not_mem_nil, or_false] at hp ⊢
        rcases hp with h | (h | h) | h | h
        · exact .inr (.inl h)
        · exact .inr (.inr (.inl h))
        · exact .inr (.inr (.inr (.inl h)))
        · exact .inl h
        · exact .inr (.inr (.inr (.inr (.inl h))))
      case ho =>
        intro p hp
        rw [← hR2d]
        simp only [List.mem_cons, List.mem_append]
        exact .inr (.inr (.inr (.inr (.inr hp))))
      case hadr => rfl
      case hb =>
        intro q9 hq9 b9 hb9
        rw [List.mem_singleton.mp hq9]
        rcases List.mem_cons.mp hb9 with e | hb9
        · rw [e]; exact ne_lt lD2.1
        · rcases List.mem_cons.mp hb9 with e | hb9
          · rw [e]; exact ne_lt lD2.2.1
          · obtain ⟨p9, hp9, e⟩ := List.mem_map.mp hb9
            rw [← e]
            exact ne_lt (kst_ltOf lD2.2.2 p9 (by rw [← hR2d]; exact List.mem_append_left _ hp9))
      case hw =>
        intro q9 hq9 p9 hp9
        rw [List.mem_singleton.mp hq9]
        exact ne_lt (kst_ltOf lD2.2.2 p9 (by rw [← hR2d]; exact List.mem_append_right _ (List.mem_append_right _ hp9)))
      case hr =>
        intro z h1 h2 h3
        have h2' := h2 _ (List.mem_cons_self ..)
        dsimp only at h2'
        simp [h1, h2', kstB]
      case hf =>
        refine' Tups.snoc (tk := tc2) (tg := tk21 + 1) ⟨by simp, ?m1⟩ (hT2.mono ?m2)
        case m1 =>
          intro hq
          rcases List.mem_cons.mp hq with e | hq
          · exact absurd (congrArg Prod.fst e) (ne_gt lD2.2.1)
          · exact absurd rfl (ne_lt (kst_ltOf lD2.2.2 _ (by rw [← hR2d, ← hRd]; exact List.mem_append_left _ (List.mem_append_right _ (List.mem_append_right _ hq)))))
        case m2 =>
          rintro p ⟨hp, hq⟩
          refine ⟨?_, hq⟩
          simp only [List.mem_cons, List.mem_append, List.not_mem_nil, or_false] at hp ⊢
          rcases hp with (h | h) | h
          · exact .inl (.inl h)
          · exact .inl (.inr h)
          · exact .inr (.inr h)
      case hp =>
        refine ⟨by simp only [List.length_append, List.length_cons, List.length_nil]; omega, by simp only [List.length_append, List.length_cons, List.length_nil]; omega, j3.snoc (by omega) ?_⟩
        exact glyph_fits hgl hrs hk20 hk24
    case done =>
      intro c tl2 u21 h21 tk21 hoff2 hT2 hI2 F21 N21
      obtain ⟨vs2, cs2, code2, tc2, np2⟩ := c
      replace F21 : Fr g' L' h21 _ := F21
      replace N21 : News g' L' h21 _ := N21
      obtain ⟨j1, j2, j3⟩ := hI2
      rw [rangeKs_length] at j1 j2
      dsimp only at hT2 j1 j2 j3 F21 N21
      have hoff3 : OwnOff tl2 [src] := fun p hp b hb => hoff2 p hp b (by rw [List.mem_singleton.mp hb]; exact List.mem_cons_of_mem _ (List.mem_cons_self ..))
      have hR2 : OwnOff (R ++ tl2) [src] := fun p hp b hb => by
        rcases List.mem_append.mp hp with h | h
        · exact hR p h b hb
        · exact hoff3 p h b hb
      generalize hR2d : R ++ tl2 = R2 at hR2
      replace N21 : News g' L' h21 ((src, listOf #[.int a2 ta2, .int b2 tb2] n2) :: (P, listOf vs2.toArray np2) :: R2) := by rw [← hR2d]; exact news_swap N21
      (try k_fold)
      k_steps
      rename_i _ _ _ _ _ gap tgap a3 b3 ta3 tb3 n3 hgap ha3 hb3 hb3' h22 F22 N22
      refine' kd_end (tl := tl) ⟨vs2, cs2, code2 + gap, ?tcO, a3, b3, ta3, tb3, n3, np2⟩ tl2 hsep F22 N22 ?hn ?ho ?hadr ?hb ?hw ?hkk ?hr ?hf ?hp
      case hkk => (with_unfolding_all exact List.forall_mem_cons.mpr ⟨by rfl, fun _ h => (nomatch h)⟩)
      case hn =>
        intro p hp
        rw [← hR2d, ← hRd]
        simp only [List.mem_cons, List.mem_append, List.not_mem_nil, or_false] at hp ⊢
        rcases hp with (h | h) | h | h | h
        · exact .inl h
        · exact .inr (.inl h)
        · exact .inr (.inr (.inl (.inl h)))
        · exact .inr (.inr (.inr h))
        · exact .inr (.inr (.inl (.inr (.inl h))))
      case ho =>
        intro p hp
        rw [← hR2d, ← hRd]
        simp only [List.mem_cons, List.mem_append]
        exact .inr (.inr (.inl (.inr (.inr hp))))
      case hadr => rfl
      case hb =>
        intro q9 hq9 b9 hb9 e9
        refine hoff2 q9 hq9 b9 ?_ e9.symm
        simp only [List.mem_cons, List.mem_map] at hb9 ⊢
        rcases hb9 with h | h | ⟨p9, h, e⟩
        · exact .inr (.inl h)
        · exact .inl h
        · exact .inr (.inr ⟨p9, by rw [← hRd]; exact List.mem_append_left _ h, e⟩)
      case hw =>
        intro q9 hq9 p9 hp9 e9
        refine hoff2 q9 hq9 p9.1 ?_ e9.symm
        refine List.mem_cons_of_mem _ (List.mem_cons_of_mem _ (List.mem_map.mpr ⟨p9, ?_, rfl⟩))
        rw [← hRd]
        exact List.mem_append_right _ (List.mem_append_right _ hp9)
      case hr =>
        intro z h1 h2 h3
        have h2' := h2 _ (List.mem_cons_self ..)
        dsimp only at h2'
        simp only [List.contains_cons, List.contains_nil, Bool.or_false, Bool.or_eq_false_iff, beq_eq_false_iff_ne, ne_eq] at h3
        simp [h1, h2', h3, kstB]
      case hf =>
        refine hT2.mono ?_
        rintro p ⟨hp, hq⟩
        rw [← hRd] at hp
        simp only [List.mem_cons, List.mem_append, not_or] at hp hq ⊢
        rcases hp with (h | h | h | h) | h
        · exact absurd h hq.1
        · exact .inl h
        · exact .inr (.inr h)
        · exact absurd h hq.2
        · exact .inr (.inl h)
      case hp =>
        refine ⟨ha3, hb3, hb3', ?_, ?_, ?_, ?_⟩
        · dsimp only; omega
        · simp only [List.length_append, List.length_cons, List.length_nil]; omega
        · simp only [List.length_append, List.length_cons, List.length_nil]; omega
        · exact j3.up (by dsimp only; omega)
end Mine

namespace Mine
open PySem PySem.W PyProof.Rows PySem.Calls
set_option maxRecDepth 100000
section
variable {prog : Program} {w : World} {A : Around} {E : Value → Shared → Prop} {s : Shared} {h₀ : Heap} {L d : Addr} {m : Str → Option Value} {news : List (Addr × Obj)} {c : List (Int × Int)}

theorem sort_list {D : Addr} {vs : List Value} {ns : List Int} {n : Nat} {Q : Value → Shared → Prop} (F : Fr h₀ L s.heap m) (N : News h₀ L s.heap ((D, listOf vs.toArray n) :: news)) (hD : ∀ q ∈ news, q.1 < D) (hi : IntsAre vs ns) (h64 : ns.length < 64)
    (h : ∀ h' vs' ns' e, Fr h₀ L h' m → News h₀ L h' ((D, listOf vs'.toArray e) :: news) → IntsAre vs' ns' → ns'.Perm ns → ns'.Pairwise (· ≤ ·) → Q .none { s with heap := h' }) :
    wpAny (model prog w) A (call (.builtin "list.sort") [.ref D]) Q E s := by
  have hx := N _ (List.mem_cons_self ..)
  have hlt := Heap.lt_size hx.1
  refine wpAny_call_entry slot_list_sort ⟨_, hx.1, rfl⟩ entry_list_sort (list_sort_tree hx.1 hi (by rw [hi.length]; exact h64) fun out ns' a1 a2 a3 => ⟨_, rfl, ?_⟩) (args_list_sort _)
  obtain ⟨e, he⟩ := sortedHeap_at (out := out) hx.1
  have old : ∀ b o, b ≠ D → s.heap.get? b = some o → (sortedHeap s.heap D vs out).get? b = some o := fun b o hb eb => (sortedHeap_old hb (Heap.lt_size eb)).trans eb
  obtain ⟨oL, a4, a5, hL, a6⟩ := F.ns
  have F' : Fr h₀ L (sortedHeap s.heap D vs out) m := ⟨⟨oL, a4, a5, old _ _ (Ne.symm hx.2.1) hL, a6⟩, fun b o eb => old b o (fun q => by rw [q, hx.2.2] at eb; cases eb) (F.keep b o eb), F.above⟩
  refine h _ out.toList ns' e F' (fun p hp => ?_) a1 a2 a3
  rcases List.mem_cons.mp hp with rfl | hp
  · exact ⟨by simpa using he, hx.2⟩
  · have hp' := N p (List.mem_cons_of_mem _ hp)
    exact ⟨old _ _ (Nat.ne_of_lt (hD p hp)) hp'.1, hp'.2⟩

theorem sorted_dict {Q : Value → Shared → Prop} (hh : A.handled = none) (F : Fr h₀ L s.heap m) (N : News h₀ L s.heap news) (T : IntTab prog w s.heap d (kdfD c)) (hc : c.length < 64)
    (h : ∀ D h' tk vs ns e, Fr h₀ L h' m → News h₀ L h' ((D, listOf vs.toArray e) :: news) → (∀ q ∈ news, q.1 < D) → IntsAre vs ns → ns.Perm (c.map (·.1)) → ns.Pairwise (· ≤ ·) → Q (.ref D) { s with heap := h', toks := tk }) :
    wpAny (model prog w) A (call (.builtin "sorted") [.ref d]) Q E s := by
  obtain ⟨lo, kvs, hD, hf⟩ := T
  obtain ⟨ep, hat⟩ := hD.dictAt
  have hlen : kvs.length = c.length := by rw [← hf.length, kdfD_length]
  refine kdu_sorted (kdl_dict (knd := PySem.intKind prog w) (kvs := kvs) (ep := ep) lo) hh F N hat (kdl_size (by rw [hlen]; omega)) fun B h' tk vs F' N' l1 hl hv => ?_
  have hi : IntsAre vs (c.map (·.1)) := by
    refine kdy_ints (by rw [hl, hlen, List.length_map]) fun j v hvj => ?_
    obtain ⟨k, x, hx, hk⟩ := hv j v hvj
    obtain ⟨dv, hd, _⟩ := hf.at hx
    have hd' : (c[j]?).map (fun p => (PyData.int p.1, PyData.int p.2)) = some (PyData.int k, dv) := by rw [← List.getElem?_map]; exact hd
    cases hcj : c[j]? with
    | none => rw [hcj] at hd'; cases hd'
    | some p =>
      rw [hcj] at hd'
      have e1 : PyData.int p.1 = PyData.int k := congrArg Prod.fst (Option.some.inj hd')
      injection e1 with e1
      obtain ⟨t, rfl⟩ := Value.isInt_shape hk
      exact ⟨p.1, by rw [List.getElem?_map, hcj]; rfl, t, by rw [e1]⟩
  refine sort_list (s := { s with heap := h', toks := tk }) F' N' l1 hi (by rw [List.length_map]; exact hc) fun h'' vs' ns' e F'' N'' b1 b2 b3 => ?_
  exact h B h'' tk vs' ns' e F'' N'' l1 b1 b2 b3
end
end Mine

namespace Mine
open PySem PySem.W PyProof.Rows PySem.Calls
set_option maxRecDepth 100000
open Builtin

theorem slot_bytes_join : Slot "bytes" "join" "bytes.join" :=
  .of (owner := "bytes") (n := "join") (by rw [typeLookup_type, builtinLookup_eq_fast]; kernel_rfl) (by decide +kernel) (by decide +kernel) (by decide +kernel)
    (by first | exact .inl (by decide +kernel) | exact .inr (by decide +kernel)) (by rw [isSubtype_type]; kernel_rfl)
theorem type_bytes_join : typeOf (.builtin "bytes.join") = pure (.type "method_descriptor") := by show builtinType _ = _; rw [builtinType_eq_fast]; kernel_rfl
theorem entry_bytes_join : entryFor table "bytes.join" = some Builtin.«bytes.join» := entryFor_of_tree (by kernel_rfl)
theorem args_bytes_join (a b : Value) : argsOk "bytes.join" ⟨[a, b], []⟩ := by unfold argsOk; kernel_rfl

section
variable {prog : Program} {w : World} {A : Around} {E : Value → Shared → Prop}
theorem join_method {M : Model} {s : Shared} {b : Array UInt8} {t : Tok} {pl : Sem Bool} {Q : Value × List Value → Shared → Prop} (h : Q (.builtin "bytes.join", [.bytes b t]) s) : wpAny M A (getMethod (.bytes b t) "join" pl) Q E s := by
  with_reducible exact KBd.method_of (.bytes b t) (typeIs_bytes _ _ _) slot_bytes_join type_bytes_join KBd.noRef h
theorem take_eq {id : String} {b : Array UInt8} {t : Tok} : Bytes.takeBufferQuiet? id (.bytes b t) 0 = pure (some (b, none)) := by
  unfold Bytes.takeBufferQuiet? Bytes.takeBuffer?
  rw [KBy.special_eq KBy.look_buffer, KBy.own_buffer]
  have e : ((0 : Int) == Bytes.fullReadOnly) = false := by decide
  simp only [pure_bind]
  rw [e, KBy.buffer_eq]
  kernel_rfl

/-- the values are bytes -/
def BytesVs : List Value → List (Array UInt8) → Prop
  | [], [] => True
  | v :: vs, b :: bs => (∃ t, v = .bytes b t) ∧ BytesVs vs bs
  | _, _ => False
theorem BytesVs.length : ∀ {vs : List Value} {bs : List (Array UInt8)}, BytesVs vs bs → vs.length = bs.length
  | [], [], _ => rfl
  | _ :: _, _ :: _, ⟨_, r⟩ => by rw [List.length_cons, List.length_cons, BytesVs.length r]
theorem BytesVs.snoc {b : Array UInt8} {t : Tok} : ∀ {vs : List Value} {bs : List (Array UInt8)}, BytesVs vs bs → BytesVs (vs ++ [.bytes b t]) (bs ++ [b])
  | [], [], _ => ⟨⟨t, rfl⟩, trivial⟩
  | _ :: _, _ :: _, ⟨h, r⟩ => ⟨h, BytesVs.snoc r⟩
theorem BytesVs.get : ∀ {vs : List Value} {bs : List (Array UInt8)} {i : Nat} {b : Array UInt8}, BytesVs vs bs → bs[i]? = some b → ∃ t, vs[i]? = some (.bytes b t)
  | _ :: _, _ :: _, 0, b, ⟨⟨t, e⟩, _⟩, hb => by
    have e2 : _ = b := Option.some.inj hb
    subst e2
    exact ⟨t, by rw [e]; rfl⟩
  | _ :: _, _ :: _, i + 1, b, ⟨_, r⟩, hb => BytesVs.get (i := i) r hb
  | [], [], i, b, _, hb => by simp at hb

theorem getD_of {vs : List Value} {i : Nat} {v : Value} (h : vs[i]? = some v) : vs.toArray.getD i Value.none = v := by
  simp [Array.getD_eq_getD_getElem?, h]
theorem joined_eq (bs : List (Array UInt8)) : Bytes.joined #[] bs = bs.foldl (· ++ ·) #[] := by
  unfold Bytes.joined
  have : ∀ (l : List (Array UInt8)) (k : Nat) (acc : Array UInt8), (l.zipIdx k).foldl (fun out (p, i) => (if i > 0 then out ++ #[] else out) ++ p) acc = l.foldl (· ++ ·) acc := by
    intro l
    induction l with
    | nil => intro k acc; rfl
    | cons b l ih =>
      intro k acc
      rw [List.zipIdx_cons, List.foldl_cons, List.foldl_cons, ih]
      simp only [Array.append_empty, ite_self]
  exact this bs 0 #[]

theorem let_go_all {keep : List Value} {s : Shared} {Q : Unit → Shared → Prop} (h : Q () s) : ∀ taken : List (Value × Option Value), (∀ p ∈ taken, p.2 = none) → wpAny (model prog w) A (Bytes.joinLetGo taken keep) Q E s
  | [], _ => wpAny_pure h
  | (x, o) :: r, hn => by
    have e : o = none := hn _ (List.mem_cons_self ..)
    subst e
    unfold Bytes.joinLetGo
    dsimp only
    refine wpAny_bind (wpAny_letGo ?_)
    exact let_go_all h r fun p hp => hn p (List.mem_cons_of_mem _ hp)
theorem foldl_sizes (bs : List (Array UInt8)) : ∀ k : Nat, bs.foldl (fun n b => n + b.size) k = k + (bs.map (·.size)).sum := by
  induction bs with
  | nil => intro k; simp
  | cons b r ih => intro k; rw [List.foldl_cons, ih, List.map_cons, List.sum_cons]; omega
theorem foldl_app_size (bs : List (Array UInt8)) : ∀ acc : Array UInt8, (bs.foldl (· ++ ·) acc).size = acc.size + (bs.map (·.size)).sum := by
  induction bs with
  | nil => intro k; simp
  | cons b r ih => intro k; rw [List.foldl_cons, ih, List.map_cons, List.sum_cons, Array.size_append]; omega
theorem call_join {l : Addr} {vs : List Value} {bs : List (Array UInt8)} {n : Nat} {t : Tok} {s : Shared} {Q : Value → Shared → Prop} (hl : s.heap.get? l = some (listOf vs.toArray n)) (hb : BytesVs vs bs) (hsz : (bs.map (·.size)).sum ≤ 16777216)
    (h : ∀ t' tk, Q (.bytes (bs.foldl (· ++ ·) #[]) t') { s with toks := tk }) :
    wpAny (model prog w) A (call (.builtin "bytes.join") [.bytes #[] t, .ref l]) Q E s := by
  refine wpAny_call (codeAny_call_builtin slot_bytes_join.plain entry_bytes_join (slot_bytes_join.check _ _ _ _ _ _ _ _ (typeIs_bytes _ _ _) (args_bytes_join _ _) ?_))
  unfold Builtin.«bytes.join» Bytes.joinM
  dsimp only
  refine wpAny_bind (m := selfAndOne _ _) (wpAny_pure ?_)
  dsimp only
  obtain ⟨items, hitems⟩ : ∃ items, items = vs.toArray := ⟨_, rfl⟩
  rw [← hitems] at hl
  have hT : s.TypeIs (.ref l) "list" := ⟨_, hl, rfl⟩
  have hlen := hb.length
  refine wpAny_bind ?_
  unfold Bytes.joinItems
  refine wpAny_bind (wpAny_typeOf hT ?_)
  rw [if_pos (by decide)]
  refine wpAny_pure ?_
  refine wpAny_bind (wpAny_seqItems hl rfl ?_)
  dsimp only
  rw [if_pos (by rfl)]
  rcases vs with _ | ⟨v, _ | ⟨v2, r⟩⟩
  case cons.nil =>
    subst hitems
    obtain ⟨b, rfl⟩ : ∃ b, bs = [b] := by
      match bs, hlen with
      | [b], _ => exact ⟨b, rfl⟩
    obtain ⟨⟨u, rfl⟩, _⟩ := hb
    show wpAny _ _ (typeOf (Value.bytes b u) >>= _) _ _ _
    refine wpAny_bind (wpAny_typeOf (T := "bytes") (typeIs_bytes _ _ _) ?_)
    rw [if_pos (by rfl)]
    refine wpAny_bind (wpAny_rule (wpAny_pure ?_))
    have := h u s.toks
    rw [List.foldl_cons, List.foldl_nil, Array.empty_append] at this
    exact this
  all_goals
    subst hitems
    show wpAny _ _ (forIn _ _ _ >>= _) _ _ _
    refine wpAny_bind ?_
    rw [Std.Legacy.Range.forIn_eq_forIn_range']
    refine wpAny_forIn_list _ (fun (rest : List Nat) (r : Array (Array UInt8) × List (Value × Option Value)) s' => ∃ i, i ≤ bs.length ∧ rest = List.range' i (bs.length - i) ∧ r.1 = (bs.take i).toArray ∧ (∀ p ∈ r.2, p.1.onHeap = false ∧ p.2 = none) ∧ s' = s) _ ?_ ?_ _ _ ?_
    · rintro i rest ⟨parts, taken⟩ s' ⟨k, hk, hr, hp, ht, rfl⟩
      dsimp only at hp ht
      have hk' : k < bs.length := by
        refine Nat.lt_of_le_of_ne hk fun e => ?_
        rw [e, Nat.sub_self] at hr
        cases hr
      obtain ⟨j, hj⟩ : ∃ j, bs.length - k = j + 1 := ⟨bs.length - k - 1, by omega⟩
      rw [hj, List.range'_succ] at hr
      obtain ⟨rfl, rfl⟩ := List.cons.inj hr
      have hbk : bs[i]? = some bs[i] := List.getElem?_eq_getElem hk'
      obtain ⟨u, hu⟩ := hb.get hbk
      refine wpAny_bind (wpAny_seqItems hl rfl ?_)
      dsimp only
      rw [if_neg (by
        have : (taken.any fun x => x.1.onHeap) = false := List.any_eq_false.mpr fun p hp => by rw [(ht p hp).1]; exact Bool.false_ne_true
        rw [this]; decide)]
      rw [getD_of hu]
      refine wpAny_bind (wpAny_holding (wpAny_of_eq take_eq ?_))
      dsimp only
      refine wpAny_bind (wpAny_seqItems hl rfl ?_)
      dsimp only
      rw [if_neg (by simp)]
      refine wpAny_pure ⟨i + 1, hk', ?_, ?_, ?_, rfl⟩
      · rw [show bs.length - (i + 1) = j from by omega]
      · rw [hp, List.take_add_one, hbk]; simp
      · intro p hq
        rcases List.mem_append.mp hq with hq | hq
        · exact ht p hq
        · rw [List.mem_singleton.mp hq]; exact ⟨rfl, rfl⟩
    · rintro ⟨parts, taken⟩ s' ⟨k, hk, hr, hp, ht, rfl⟩
      dsimp only at hp ht ⊢
      have hk' : k = bs.length := by
        refine Nat.le_antisymm hk (Nat.le_of_not_lt fun h => ?_)
        obtain ⟨j, hj⟩ : ∃ j, bs.length - k = j + 1 := ⟨bs.length - k - 1, by omega⟩
        rw [hj, List.range'_succ] at hr
        cases hr
      rw [hk', List.take_length] at hp
      subst hp
      show wpAny _ _ (pure #[] >>= _) _ _ _
      refine wpAny_bind (wpAny_pure ?_)
      have e1 : Array.foldl (fun x1 x2 => x1 + x2.size) ((#[] : Array UInt8).size * (bs.toArray.size - 1)) bs.toArray = (bs.map (·.size)).sum := by
        rw [List.foldl_toArray, foldl_sizes]; simp
      rw [e1, KBy.tooLong_not hsz]
      rw [if_neg Bool.false_ne_true]
      show wpAny _ _ (mkBytes (Bytes.joined #[] bs) >>= _) _ _ _
      have e2 : (Bytes.joined #[] bs).size ≤ sizeLine := by rw [joined_eq, foldl_app_size, sizeLine_eq]; simpa using hsz
      refine wpAny_bind ?_
      unfold mkBytes
      rw [if_neg (Nat.not_lt.mpr e2)]
      refine wpAny_bind (wpAny_fresh (wpAny_pure ?_))
      refine wpAny_bind (wpAny_holding (wpAny_point ?_))
      refine wpAny_bind (let_go_all ?_ taken fun p hp => (ht p hp).2)
      rw [joined_eq]
      exact wpAny_pure (h _ _)
    · exact ⟨0, Nat.zero_le _, by simp [hlen], by simp, fun p hp => (nomatch hp), rfl⟩
end
end Mine

namespace Mine
open PySem PySem.W PyProof.Rows PySem.Calls
set_option maxRecDepth 100000

/-- the list's items are tuples of three ints, made by the call -/
def Tups3 (S : Addr × Obj → Prop) : List Value → List (Int × Int × Int) → Prop
  | [], [] => True
  | v :: vs, c :: cs => (∃ t t1 t2 t3, v = .ref t ∧ S (t, ({ cls := .type "tuple", data := .seq #[.int c.1 t1, .int c.2.1 t2, .int c.2.2 t3] } : Obj))) ∧ Tups3 S vs cs
  | _, _ => False
theorem Tups3.mono {S S' : Addr × Obj → Prop} (hs : ∀ p, S p → S' p) : ∀ {vs : List Value} {cs : List (Int × Int × Int)}, Tups3 S vs cs → Tups3 S' vs cs
  | [], [], h => h
  | _ :: _, _ :: _, ⟨⟨t, t1, t2, t3, e, h⟩, r⟩ => ⟨⟨t, t1, t2, t3, e, hs _ h⟩, Tups3.mono hs r⟩
theorem Tups3.snoc {S : Addr × Obj → Prop} {t : Addr} {a b c : Int} {t1 t2 t3 : Tok} (hm : S (t, ({ cls := .type "tuple", data := .seq #[.int a t1, .int b t2, .int c t3] } : Obj))) : ∀ {vs : List Value} {cs : List (Int × Int × Int)}, Tups3 S vs cs → Tups3 S (vs ++ [.ref t]) (cs ++ [(a, b, c)])
  | [], [], _ => ⟨⟨t, t1, t2, t3, rfl, hm⟩, trivial⟩
  | _ :: _, _ :: _, ⟨h, r⟩ => ⟨h, Tups3.snoc hm r⟩
theorem Tups3.length {S : Addr × Obj → Prop} : ∀ {vs : List Value} {cs : List (Int × Int × Int)}, Tups3 S vs cs → vs.length = cs.length
  | [], [], _ => rfl
  | _ :: _, _ :: _, ⟨_, r⟩ => by rw [List.length_cons, List.length_cons, Tups3.length r]
theorem Tups3.last {S : Addr × Obj → Prop} {q : Int × Int × Int} : ∀ {vs : List Value} {cs : List (Int × Int × Int)}, Tups3 S vs (cs ++ [q]) →
    ∃ us t t1 t2 t3, vs = us ++ [.ref t] ∧ Tups3 S us cs ∧ S (t, ({ cls := .type "tuple", data := .seq #[.int q.1 t1, .int q.2.1 t2, .int q.2.2 t3] } : Obj))
  | [], [], h => False.elim h
  | [], _ :: _, h => False.elim h
  | [v], [], ⟨⟨t, t1, t2, t3, e, h⟩, _⟩ => ⟨[], t, t1, t2, t3, by rw [e]; rfl, trivial, h⟩
  | v :: vs, c :: cs, ⟨h, r⟩ => by
    obtain ⟨us, t, t1, t2, t3, e, hu, hm⟩ := Tups3.last r
    exact ⟨v :: us, t, t1, t2, t3, by rw [e]; rfl, ⟨h, hu⟩, hm⟩
theorem Tups3.get {S : Addr × Obj → Prop} : ∀ {vs : List Value} {cs : List (Int × Int × Int)} {i : Nat} {v : Value}, Tups3 S vs cs → vs[i]? = some v →
    ∃ c t t1 t2 t3, cs[i]? = some c ∧ v = .ref t ∧ S (t, ({ cls := .type "tuple", data := .seq #[.int c.1 t1, .int c.2.1 t2, .int c.2.2 t3] } : Obj))
  | _ :: _, c :: _, 0, v, ⟨⟨t, t1, t2, t3, e, h⟩, _⟩, hv => ⟨c, t, t1, t2, t3, rfl, by rw [← Option.some.inj hv]; exact e, h⟩
  | _ :: _, _ :: _, i + 1, v, ⟨_, r⟩, hv => Tups3.get (i := i) r hv
  | [], [], i, v, _, hv => by simp at hv

theorem tupsData : ∀ cs : List (Int × Int × Int), PyData.canLayAll0 (cs.map fun c => PyData.tuple [.int c.1, .int c.2.1, .int c.2.2]) = true ∧ PyData.depthAll (cs.map fun c => PyData.tuple [.int c.1, .int c.2.1, .int c.2.2]) ≤ 2
  | [] => by simp [PyData.canLayAll0, PyData.depthAll]
  | c :: r => by
    have h := tupsData r
    refine ⟨?_, ?_⟩
    · simp only [List.map_cons, PyData.canLayAll0, PyData.canLay0, h.1, Bool.and_self]
    · simp only [List.map_cons, PyData.depthAll, PyData.depth]
      have := h.2
      omega
theorem tups_shaped (cs : List (Int × Int × Int)) : SeqAt.shaped (.list (cs.map fun c => PyData.tuple [.int c.1, .int c.2.1, .int c.2.2])) = true := by
  have h := tupsData cs
  show (PyData.canLay0 _ && decide (PyData.depth _ ≤ 64)) = true
  rw [Bool.and_eq_true]
  refine ⟨by simp only [PyData.canLay0]; exact h.1, decide_eq_true ?_⟩
  simp only [PyData.depth]
  omega

section
variable {prog : Program} {w : World} {A : Around} {E : Value → Shared → Prop} {s : Shared} {h₀ : Heap} {L R : Addr} {m : Str → Option Value} {news : List (Addr × Obj)}

theorem tups_reads {h : Heap} (N : News h₀ L h news) : ∀ {vs : List Value} {cs : List (Int × Int × Int)}, Tups3 (· ∈ news) vs cs → ∃ as, ReadsAll h vs (cs.map fun c => PyData.tuple [.int c.1, .int c.2.1, .int c.2.2]) as
  | [], [], _ => ⟨_, .nil⟩
  | _ :: _, c :: _, ⟨⟨t, t1, t2, t3, e, hm⟩, r⟩ => by
    obtain ⟨as, ih⟩ := tups_reads N r
    subst e
    exact ⟨_, .cons (reads_tuple_at (N _ hm).1 rfl rfl (.cons (.int _ _) (.cons (.int _ _) (.cons (.int _ _) .nil)))) ih⟩

theorem ne_rows {l : Addr} {vs : List Value} {cs : List (Int × Int × Int)} {n k : Nat} {Q : Value → Shared → Prop} (N : News h₀ L s.heap news) (hR : (R, listOf vs.toArray n) ∈ news) (hl : (l, listOf #[] k) ∈ news) (hT : Tups3 (· ∈ news) vs cs) (hu : A.units + 64 < cLine)
    (h : Q (.bool (decide (cs ≠ []))) s) : wpAny (model prog w) A (compareOp .NotEq (.ref R) (.ref l)) Q E s := by
  obtain ⟨as, ra⟩ := tups_reads N hT
  refine ne_dataH (reads_list_at (N _ hR).1 rfl rfl (by simpa using ra)) (reads_list_at (N _ hl).1 rfl rfl .nil) (tups_shaped cs) (by rfl) hu ?_
  have e : (!PyData.eqv (.list (cs.map fun c => PyData.tuple [.int c.1, .int c.2.1, .int c.2.2])) (.list [])) = decide (cs ≠ []) := by
    cases cs with
    | nil => rfl
    | cons c r => simp [PyData.eqv, PyData.eqvAll]
  rw [e]
  exact h

theorem get_last {value slice : Expr} {us : List Value} {v : Value} {n : Nat} {u : Tok} {Q : Value → Shared → Prop} (N : News h₀ L s.heap news) (hR : (R, listOf (us ++ [v]).toArray n) ∈ news) (h : Q v s)
    (hs : subscripted slice false (.ref R) (.int (-1) u) = operate [.ref R, .int (-1) u] (getItem (.ref R) (.int (-1) u)) := by with_unfolding_all rfl) :
    wpAny (model prog w) A (subscriptTail value slice (.ref R) (.int (-1) u)) Q E s := by
  have hl : s.heap.IsList R (us ++ [v]).toArray := ⟨_, (N _ hR).1, rfl, n, rfl⟩
  refine tail_any hl.typeIs slot_list_getitem.lookup (wpAny_getItem_list_neg hl (by decide) ?_ (by decide) ?_ h) hs
  · simp only [List.size_toArray, List.length_append, List.length_cons, List.length_nil]; omega
  · have : (-1 + (((us ++ [v]).toArray.size : Nat) : Int)).toNat = us.length := by
      simp only [List.size_toArray, List.length_append, List.length_cons, List.length_nil]; omega
    rw [this]; simp

theorem set_last {us : List Value} {v x : Value} {n : Nat} {u : Tok} {Q : Unit → Shared → Prop} (hl : s.heap.get? R = some (listOf (us ++ [v]).toArray n))
    (h : ∀ h', h'.get? R = some (listOf (us ++ [x]).toArray n) → (∀ b, b ≠ R → h'.get? b = s.heap.get? b) → Q () { s with heap := h' }) :
    wpAny (model prog w) A (setItem (.ref R) (.int (-1) u) x) Q E s := by
  have hL : s.heap.IsList R (us ++ [v]).toArray := ⟨_, hl, rfl, n, rfl⟩
  unfold setItem
  try with_reducible refine wpAny_holding ?_
  first | refine wpAny_bind (wpAny_pure ?_) | skip
  refine wpAny_bind (wpAny_sequenceKey hL.typeIs (by decide) ?_)
  refine wpAny_bind (wpAny_callSpecial?_slot (name := Str.ofString "__setitem__") hL.typeIs slot_list_setitem
    (wpAny_call_entry slot_list_setitem hL.typeIs entry_list_setitem ?_ (args_list_setitem _ _ _)))
  show wpAny _ _ (Builtin.List.listSubscript? (.int (-1) u) >>= _) _ _ s
  refine wpAny_bind (wpAny_listSubscript_int (fitsIndex_neg (by decide) (by decide)) ?_)
  show wpAny _ _ ((Builtin.List.listItems (.ref R) >>= fun xs => pure ((seqIndex? (-1) xs.size).bind fun i => xs[i]?.map (i, ·))) >>= _) _ _ s
  refine wpAny_bind (wpAny_bind ?_)
  show wpAny _ _ (seqItems? (.ref R) >>= _) _ _ s
  refine wpAny_bind (wpAny_seqItems hl rfl (wpAny_pure (wpAny_pure ?_)))
  have e1 : seqIndex? (-1) (us ++ [v]).toArray.size = some us.length := by
    rw [seqIndex_neg (by decide) (by simp only [List.size_toArray, List.length_append, List.length_cons, List.length_nil]; omega)]
    congr 1
    simp only [List.size_toArray, List.length_append, List.length_cons, List.length_nil]; omega
  have e2 : (us ++ [v]).toArray[us.length]? = some v := by simp
  rw [e1]
  simp only [Option.bind_some, e2, Option.map_some]
  show wpAny _ _ (setSeqItemAt R us.length x >>= _) _ _ s
  have e3 : ((us ++ [v]).toArray.setIfInBounds us.length x) = (us ++ [x]).toArray := by simp
  have e4 : Obj.mapSeq (·.setIfInBounds us.length x) (listOf (us ++ [v]).toArray n) = listOf (us ++ [x]).toArray n := by
    show (⟨_, _, .seq ((us ++ [v]).toArray.setIfInBounds us.length x) (if ((us ++ [v]).toArray.setIfInBounds us.length x).size == (us ++ [v]).toArray.size then n else n + 1), _⟩ : Obj) = _
    rw [e3]
    have e5 : ((us ++ [x]).toArray.size == (us ++ [v]).toArray.size) = true := by simp
    rw [e5]; rfl
  have hfin := h (s.heap.update R (Obj.mapSeq (·.setIfInBounds us.length x))) (by rw [← e4]; exact Heap.get?_update_self _ hl (by rw [e4]; rfl)) fun b hb => Heap.get?_update_ne _ _ _ _ hb
  refine wpAny_bind (wpAny_setSeqItemAt hl rfl ?_)
  first
    | exact wpAny_bind (wpAny_pure (wpAny_pure ⟨.none, rfl, wpAny_pure hfin⟩))
    | exact wpAny_pure ⟨.none, rfl, wpAny_pure hfin⟩
theorem tup_item {value slice : Expr} {t : Addr} {x y z v : Value} {k : Int} {j : Nat} {u : Tok} {n : Nat} {Q : Value → Shared → Prop} (N : News h₀ L s.heap news) (hm : (t, ({ cls := .type "tuple", data := .seq #[x, y, z] n } : Obj)) ∈ news)
    (hk : k = (j : Int)) (hj : j < 3) (hx : [x, y, z][j]? = some v) (h : Q v s)
    (hs : subscripted slice false (.ref t) (.int k u) = operate [.ref t, .int k u] (getItem (.ref t) (.int k u)) := by with_unfolding_all rfl) :
    wpAny (model prog w) A (subscriptTail value slice (.ref t) (.int k u)) Q E s := by
  have ht : IsTup s.heap t [x, y, z].toArray := ⟨_, (N _ hm).1, rfl, n, rfl⟩
  subst hk
  refine item_tupleT ht (by omega) (by omega) (j := j) ?_ hx h hs
  unfold seqIndex?
  have : ¬ ((j : Int) < 0) := by omega
  simp only [this, if_false, List.length_cons, List.length_nil]
  rw [if_pos (by simp only [Bool.and_eq_true, decide_eq_true_eq]; omega)]
  simp
theorem dict_item {value slice : Expr} {d : Addr} {o : Obj} {kvs : List (Int × Value)} {c : List (Int × Int)} {k : Int} {tk : Tok} {Q : Value → Shared → Prop} (N : News h₀ L s.heap news) (hm : (d, o) ∈ news) (hlo : (d == sysModules) = false) (hd : o.IsDictOf (PySem.intKind prog w) kvs) (hf : PyProof.V.FlatPairs PyData.int kvs (kdfD c))
    (hk : kdfHas c k = true) (h : ∀ t, Q (.int (kdfLook c k 0) t) { s with toks := s.toks + 1 })
    (hs : subscripted slice false (.ref d) (.int k tk) = operate [.ref d, .int k tk] (getItem (.ref d) (.int k tk)) := by with_unfolding_all rfl) (hg : ∀ r, letTemporaryGo value (.ref d) r = pure () := by intro _; with_unfolding_all rfl) :
    wpAny (model prog w) A (subscriptTail value slice (.ref d) (.int k tk)) Q E s :=
  kdf_item (TabAt.ofObj hlo (N _ hm).1 hd hf) hk h hs hg
theorem set_last_K {us : List Value} {v x : Value} {n : Nat} {u : Tok} {news' : List (Addr × Obj)} {Q : Unit → Shared → Prop} (F : Fr h₀ L s.heap m) (N : News h₀ L s.heap news) (U : Upd R (listOf (us ++ [v]).toArray n) (listOf (us ++ [x]).toArray n) news news')
    (h : ∀ h', Fr h₀ L h' m → News h₀ L h' news' → Q () { s with heap := h' }) : wpAny (model prog w) A (setItem (.ref R) (.int (-1) u) x) Q E s := by
  obtain ⟨pre, post, e1, e2, n1, n2⟩ := U.split
  subst e1 e2
  have D := N (R, listOf (us ++ [v]).toArray n) (by simp)
  refine set_last D.1 fun h' hR hk => ?_
  obtain ⟨oL, es, ep, hL, r⟩ := F.ns
  refine h h' ⟨⟨oL, es, ep, (hk L (Ne.symm D.2.1)).trans hL, r⟩, fun b o q => (hk b fun z => ?_).trans (F.keep b o q), F.above⟩ fun p hp => ?_
  · have := D.2.2; rw [z] at q; rw [q] at this; cases this
  · rcases List.mem_append.mp hp with q | q
    · have P := N p (List.mem_append_left _ q); exact ⟨(hk _ (n1 p q)).trans P.1, P.2⟩
    · rcases List.mem_cons.mp q with rfl | q
      · exact ⟨hR, D.2⟩
      · have P := N p (List.mem_append_right _ (.tail _ q)); exact ⟨(hk _ (n2 p q)).trans P.1, P.2⟩
end
end Mine

namespace Mine
open PySem PySem.W PyProof.Rows PySem.Calls PyProof.Rows.LCg PyProof.Rows.LCp
set_option maxRecDepth 100000
section
variable {prog : Program} {w : World} {A : Around} {E : Value → Shared → Prop} {s : Shared} {h₀ : Heap} {L : Addr} {m : Str → Option Value} {env : Env} {news : List (Addr × Obj)}

/-- a row's three names are bound -/
theorem assign3 {env : Env} {x1 x2 x3 : Str} {p1 p2 p3 tp : Pos} {k : Nat} {T : Addr} {v1 v2 v3 : Value} {n : Nat} {m : Str → Option Value} {s : Shared} {Q : Unit → Shared → Prop} (hh : A.handled = none) (ht : s.heap.get? T = some { cls := .type "tuple", data := .seq #[v1, v2, v3] n })
    (h1 : env.kindOf x1 = some .local) (h2 : env.kindOf x2 = some .local) (h3 : env.kindOf x3 = some .local) (hp : (env.scope.kind == .class || (env.scope.kind == .module && env.locals != env.globals)) = false) (hn : s.heap.Ns env.locals m)
    (h : ∀ (h' : Heap) (tk : Nat), h'.Ns env.locals (fun z => if z = x3 then some v3 else if z = x2 then some v2 else if z = x1 then some v1 else m z) → (∀ c o, c ≠ env.locals → s.heap.get? c = some o → h'.get? c = some o) → Q () { s with heap := h', toks := tk }) :
    wpAny (model prog w) A (assign (.Tuple [.Name x1 p1, .Name x2 p2, .Name x3 p3] k tp) env (.ref T)) Q E s := by
  have ht' : IsTup s.heap T #[v1, v2, v3] := ⟨_, ht, rfl, n, rfl⟩
  refine assign_Tuple_tuple hh ht' rfl rfl fun h₁ he₁ => ?_
  have hL : env.locals ≠ s.heap.objs.size := Nat.ne_of_lt hn.lt
  have hn₁ : h₁.Ns env.locals m := hn.at' fun o e => he₁ _ o hL e
  have up₁ : ∀ c o, s.heap.get? c = some o → h₁.get? c = some o := fun c o e => he₁ c o (Nat.ne_of_lt (Heap.lt_size e)) e
  refine assignInOrder_cons (wpAny_assign_Name (wpAny_storeName_local h1 hn₁ (fun h₂ hn₂ hs₂ => ?_) hp))
  refine assignInOrder_cons (wpAny_assign_Name (wpAny_storeName_local h2 hn₂ (fun h₃ hn₃ hs₃ => ?_) hp))
  refine assignInOrder_cons (wpAny_assign_Name (wpAny_storeName_local h3 hn₃ (fun h₄ hn₄ hs₄ => ?_) hp))
  refine assignInOrder_nil ?_
  exact h h₄ _ hn₄ fun c o hc e => hs₄.extBut c o hc (hs₃.extBut c o hc (hs₂.extBut c o hc (up₁ c o e)))

theorem comp3 {elt iter : Expr} {x1 x2 x3 : Str} {p1 p2 p3 tp : Pos} {k0 : Nat} {scope : Scope} {pos : Pos} {R : Addr} {us : List Value} {n : Nat} {rs : List (Int × Int × Int)} {f : Int × Int × Int → Array UInt8} {Q : Value → Shared → Prop}
    (hh : A.handled = none) (F : Fr h₀ L s.heap m) (N : News h₀ L s.heap news) (hR : (R, listOf us.toArray n) ∈ news) (hT : Tups3 (· ∈ news) us rs) (hsz : us.length ≤ 1000)
    (hclos : closureFor scope env = pure []) (hcell : ∀ y ∈ scope.names, y.2 ≠ .cell) (hkind : scope.kind = .function) (hnames : ∀ y ∈ scope.names, y.2 = .local → scope.names.lookup y.1 = some .local)
    (hx1 : scope.names.lookup x1 = some .local) (hx2 : scope.names.lookup x2 = some .local) (hx3 : scope.names.lookup x3 = some .local) (h12 : x1 ≠ x2) (h13 : x1 ≠ x3) (h23 : x2 ≠ x3)
    (hiter : ∀ Q' : Value → Shared → Prop, Q' (.ref R) s → wpAny (model prog w) A (eval iter env) Q' E s) (hs : ∀ x, foldedSetIterable iter env x = pure x)
    (turn : ∀ (q : Int × Int × Int) t1 t2 t3 I oI C oC D oD m₂ h tk (E' : Value → Shared → Prop), NsObj oC m₂ → m₂ x1 = some (.int q.1 t1) → m₂ x2 = some (.int q.2.1 t2) → m₂ x3 = some (.int q.2.2 t3) → Fr h₀ L h m → News h₀ L h ((I, oI) :: (C, oC) :: (D, oD) :: news) →
      wpAny (model prog w) A (eval elt (compEnvC scope [] C env)) (fun y s₄ => ∃ h' tk' t, s₄ = { s with heap := h', toks := tk' } ∧ y = .bytes (f q) t ∧ Fr h₀ L h' m ∧ News h₀ L h' ((I, oI) :: (C, oC) :: (D, oD) :: news)) E' { s with heap := h, toks := tk })
    (done : ∀ D h' tk ys, Fr h₀ L h' m → News h₀ L h' ((D, lst ys) :: news) → (∀ p ∈ news, p.1 < D) → BytesVs ys (rs.map f) → Q (.ref D) { s with heap := h', toks := tk }) :
    wpAny (model prog w) A (eval (.ListComp elt [⟨.Tuple [.Name x1 p1, .Name x2 p2, .Name x3 p3] k0 tp, iter, [], 0⟩] scope pos) env) Q E s := by
  rw [eval_ListComp]
  refine wpAny_comprehension_free (use := none) rfl hs hclos hkind hnames (hiter _ ?_)
  have hl : s.heap.IsList R us.toArray := ⟨_, (N _ hR).1, rfl, n, rfl⟩
  have hlen := hT.length
  have hRlt : @LT.lt Nat _ R s.heap.objs.size := Heap.lt_size (N _ hR).1
  have ltS : ∀ b o, s.heap.get? b = some o → @LT.lt Nat _ b s.heap.objs.size := fun b o e => Heap.lt_size e
  refine wpAny_pyIter_list hl ?_
  refine wpAny_newObj_type (wpAny_newFunctionEnv hcell (by intro y hy; simp at hy) (fun h₁ hns₁ hsb₁ => ?_) hkind)
  dsimp only at hns₁ hsb₁ ⊢
  generalize hH1 : s.heap.push { cls := .type "list_iterator", data := .fields #[.ref R, .int 0 0] } = H1 at hns₁ hsb₁ ⊢
  generalize hH2 : H1.push { cls := .type "list", dict := none, data := .seq ([] : List Value).toArray } = H2 at hns₁ hsb₁ ⊢
  have hD : H1.objs.size = s.heap.objs.size + 1 := by rw [← hH1, Heap.size_push]
  have hC : H2.objs.size = s.heap.objs.size + 2 := by rw [← hH2, Heap.size_push, hD]
  have old : ∀ b o, s.heap.get? b = some o → h₁.get? b = some o := fun b o e => hsb₁.extBut b o (by have := ltS b o e; rw [hC]; (first | omega | exact Nat.ne_of_lt (by omega) | exact Nat.ne_of_gt (by omega))) (Heap.get?_push_of_some _ (hH2 ▸ Heap.get?_push_of_some _ (hH1 ▸ Heap.get?_push_of_some _ e)))
  have hit₁ : h₁.IsListIter s.heap.objs.size R 0 := ⟨_, hsb₁.extBut _ _ (by rw [hC]; (first | omega | exact Nat.ne_of_lt (by omega) | exact Nat.ne_of_gt (by omega))) (Heap.get?_push_of_some _ (hH2 ▸ Heap.get?_push_of_some _ (hH1 ▸ Heap.get?_push_size _ rfl))), rfl, rfl⟩
  have hacc : h₁.get? H1.objs.size = some (lst []) := hsb₁.extBut _ _ (by rw [hC, hD]; (first | omega | exact Nat.ne_of_lt (by omega) | exact Nat.ne_of_gt (by omega))) (Heap.get?_push_of_some _ (hH2 ▸ Heap.get?_push_size _ rfl))
  have fresh₀ : ∀ a, s.heap.objs.size ≤ a → h₀.get? a = none := fun a ha => by
    cases e : h₀.get? a with
    | none => rfl
    | some o' => exact absurd (Heap.lt_size (F.keep a o' e)) (Nat.not_lt.mpr ha)
  have hI₀ : h₀.get? s.heap.objs.size = none := fresh₀ _ (Nat.le_refl _)
  have hD₀ : h₀.get? H1.objs.size = none := fresh₀ _ (by rw [hD]; (first | omega | exact Nat.ne_of_lt (by omega) | exact Nat.ne_of_gt (by omega)))
  have hC₀ : h₀.get? H2.objs.size = none := fresh₀ _ (by rw [hC]; (first | omega | exact Nat.ne_of_lt (by omega) | exact Nat.ne_of_gt (by omega)))
  have hLlt : @LT.lt Nat _ L s.heap.objs.size := F.ns.lt
  have lt : ∀ p ∈ news, @LT.lt Nat _ p.1 s.heap.objs.size := fun p hp => Heap.lt_size (N p hp).1
  have loop : ∀ s₃ : Shared, s₃ = { s with heap := h₁, toks := s.toks + ([] : List (Str × Value)).length } →
      codeAny (model prog w) A (.compLoop (.ListComp elt [⟨.Tuple [.Name x1 p1, .Name x2 p2, .Name x3 p3] k0 tp, iter, [], 0⟩] scope pos) 0 (.ref s.heap.objs.size) (.ref H1.objs.size) (compEnvC scope [] H2.objs.size env))
        (compPost (model prog w) A E none Q (.ref H1.objs.size) H2.objs.size) s₃ := by
    rintro s₃ rfl
    refine codeAny_compLoop_pair
      (fun k s' => ∃ h' tk i ys m', s' = { s with heap := h', toks := tk } ∧ i ≤ rs.length ∧ k = rs.length + 1 - i ∧ ys.length = i ∧ h'.IsListIter s.heap.objs.size R i ∧ Fr h₀ L h' m ∧ h'.Ns H2.objs.size m' ∧ News h₀ L h' ((H1.objs.size, lst ys) :: news) ∧ BytesVs ys ((rs.take i).map f)) ?_ (rs.length + 1)
      ⟨h₁, _, 0, [], _, rfl, Nat.zero_le _, rfl, rfl, hit₁, F.keeps old, hns₁, fun p hp => ?_, trivial⟩
    · rintro k s' ⟨h', tk, i, ys, m', rfl, hi, rfl, hyl, hit', F', hn', N', hB'⟩
      have hl' : h'.IsList R us.toArray := ⟨_, (N' _ (List.mem_cons_of_mem _ hR)).1, rfl, n, rfl⟩
      by_cases hlt : i < rs.length
      · obtain ⟨v, hv⟩ : ∃ v, us[i]? = some v := ⟨us[i]'(by omega), by simp [show i < us.length by omega]⟩
        obtain ⟨q, t, t1, t2, t3, hq, rfl, hm⟩ := hT.get hv
        refine wpAny_pyNext_list_item hit' hl' (x := .ref t) (by simpa using hv) fun h₂ hit₂ hs₂ => ?_
        dsimp only
        have k₂ : ∀ b o, b ≠ s.heap.objs.size → h'.get? b = some o → h₂.get? b = some o := fun b o hb e => (hs₂.2 b hb).trans e
        have F₂ : Fr h₀ L h₂ m := fr_but F' (fun b o hb e => k₂ b o (by simpa using hb) e) (Nat.ne_of_lt hLlt) hI₀
        have N₂ : News h₀ L h₂ ((H1.objs.size, lst ys) :: news) := fun p hp => ⟨k₂ _ _ (by
          rcases List.mem_cons.mp hp with rfl | hp
          · dsimp only; rw [hD]; (first | omega | exact Nat.ne_of_lt (by omega) | exact Nat.ne_of_gt (by omega))
          · exact Nat.ne_of_lt (lt p hp)) (N' p hp).1, (N' p hp).2⟩
        refine wpAny_letOwnedTupleGo_listiter hit₂ ?_
        have hn₂ : h₂.Ns H2.objs.size m' := hn'.at' fun o e => k₂ _ o (by rw [hC]; (first | omega | exact Nat.ne_of_lt (by omega) | exact Nat.ne_of_gt (by omega))) e
        refine assign3 (env := compEnvC scope [] H2.objs.size env) hh (N₂ _ (List.mem_cons_of_mem _ hm)).1 (lookup_relabel_local hx1) (lookup_relabel_local hx2) (lookup_relabel_local hx3) (by simp [compEnvC, relabel, hkind]) hn₂ fun h₃ tk₃ hn₃ hk₃ => ?_
        replace hn₃ : h₃.Ns H2.objs.size _ := hn₃
        replace hk₃ : ∀ c o, c ≠ H2.objs.size → h₂.get? c = some o → h₃.get? c = some o := hk₃
        obtain ⟨oI, heI, hcI, hdI⟩ := hit₂.at fun o e => hk₃ _ o (by rw [hC]; (first | omega | exact Nat.ne_of_lt (by omega) | exact Nat.ne_of_gt (by omega))) e
        obtain ⟨oC, heC, hoC⟩ := ns_obj hn₃
        have F₃ : Fr h₀ L h₃ m := fr_but F₂ (fun b o hb e => hk₃ b o (by simpa using hb) e) (by rw [hC]; (first | omega | exact Nat.ne_of_lt (by omega) | exact Nat.ne_of_gt (by omega))) hC₀
        have N₃ : News h₀ L h₃ ((s.heap.objs.size, oI) :: (H2.objs.size, oC) :: (H1.objs.size, lst ys) :: news) := fun p hp => by
          rcases List.mem_cons.mp hp with rfl | hp
          · exact ⟨heI, Nat.ne_of_gt hLlt, hI₀⟩
          · rcases List.mem_cons.mp hp with rfl | hp
            · exact ⟨heC, by dsimp only; rw [hC]; (first | omega | exact Nat.ne_of_lt (by omega) | exact Nat.ne_of_gt (by omega)), hC₀⟩
            · refine ⟨hk₃ _ _ ?_ (N₂ p hp).1, (N₂ p hp).2⟩
              rcases List.mem_cons.mp hp with rfl | hp
              · dsimp only; rw [hC, hD]; (first | omega | exact Nat.ne_of_lt (by omega) | exact Nat.ne_of_gt (by omega))
              · have := lt p hp; rw [hC]; (first | omega | exact Nat.ne_of_lt (by omega) | exact Nat.ne_of_gt (by omega))
        refine wpAny_mono (turn q t1 t2 t3 _ oI _ oC _ (lst ys) _ h₃ tk₃ _ hoC (by simp [h12, h13]) (by simp [h23]) (by simp) F₃ N₃) (fun y s₄ h₄ => ?_) fun _ _ e => e
        obtain ⟨h₄, tk₄, ty, rfl, rfl, F₄, N₄⟩ := h₄
        have zI := (N₄ _ List.mem_cons_self).1
        have zC := (N₄ _ (List.mem_cons_of_mem _ List.mem_cons_self)).1
        have zD := (N₄ _ (List.mem_cons_of_mem _ (List.mem_cons_of_mem _ List.mem_cons_self))).1
        refine append_at (hsz := by show ys.toArray.size ≤ sizeLine; rw [List.size_toArray, hyl, sizeLine_eq]; omega) zD fun h₅ hs₅ hD₅ => ?_
        have k₅ : ∀ b o, b ≠ H1.objs.size → h₄.get? b = some o → h₅.get? b = some o := fun b o hb e => (hs₅.2 b hb).trans e
        refine ⟨rs.length + 1 - (i + 1), by omega, h₅, tk₄, i + 1, ys ++ [.bytes (f q) ty], _, rfl, hlt, rfl, by rw [List.length_append, List.length_singleton, hyl],
          ⟨oI, k₅ _ _ (by rw [hD]; (first | omega | exact Nat.ne_of_lt (by omega) | exact Nat.ne_of_gt (by omega))) zI, hcI, hdI⟩, F₄.change hs₅ (by rw [hD]; (first | omega | exact Nat.ne_of_lt (by omega) | exact Nat.ne_of_gt (by omega))) hD₀, (hoC.ns zC).sameBut hs₅ (by rw [hC, hD]; (first | omega | exact Nat.ne_of_lt (by omega) | exact Nat.ne_of_gt (by omega))), fun p hp => ?_, ?_⟩
        · rcases List.mem_cons.mp hp with rfl | hp
          · exact ⟨hD₅.trans (congrArg some (lst_snoc ys _)), by dsimp only; rw [hD]; (first | omega | exact Nat.ne_of_lt (by omega) | exact Nat.ne_of_gt (by omega)), hD₀⟩
          · have z := N₄ p (List.mem_cons_of_mem _ (List.mem_cons_of_mem _ (List.mem_cons_of_mem _ hp)))
            exact ⟨k₅ _ _ (by have := lt p hp; rw [hD]; (first | omega | exact Nat.ne_of_lt (by omega) | exact Nat.ne_of_gt (by omega))) z.1, z.2⟩
        · rw [List.take_add_one, hq, List.map_append]
          exact hB'.snoc
      · obtain rfl : i = rs.length := Nat.le_antisymm hi (Nat.not_lt.mp hlt)
        refine wpAny_pyNext_list_end (items := us.toArray) hh hit' hl' (by simp; omega) fun h₂ hk₂ => ?_
        dsimp only
        have F₂ : Fr h₀ L h₂ m := fr_but F' (fun b o hb e => hk₂ b o (by simpa using hb) e) (Nat.ne_of_lt hLlt) hI₀
        have N₂ : News h₀ L h₂ ((H1.objs.size, lst ys) :: news) := fun p hp => ⟨hk₂ _ _ (by
          rcases List.mem_cons.mp hp with rfl | hp
          · dsimp only; rw [hD]; (first | omega | exact Nat.ne_of_lt (by omega) | exact Nat.ne_of_gt (by omega))
          · exact Nat.ne_of_lt (lt p hp)) (N' p hp).1, (N' p hp).2⟩
        rw [List.take_length] at hB'
        refine ⟨m', hn'.at' fun o e => hk₂ _ o (by rw [hC]; (first | omega | exact Nat.ne_of_lt (by omega) | exact Nat.ne_of_gt (by omega))) e, fun h'' hs'' => done _ h'' tk ys (F₂.change hs'' (by rw [hC]; (first | omega | exact Nat.ne_of_lt (by omega) | exact Nat.ne_of_gt (by omega))) hC₀) (fun p hp => ?_) (fun p hp => by have := lt p hp; rw [hD]; exact Nat.lt_succ_of_lt this) hB'⟩
        refine ⟨(hs''.2 _ ?_).trans (N₂ p hp).1, (N₂ p hp).2⟩
        rcases List.mem_cons.mp hp with rfl | hp
        · dsimp only; rw [hC, hD]; (first | omega | exact Nat.ne_of_lt (by omega) | exact Nat.ne_of_gt (by omega))
        · have := lt p hp; rw [hC]; (first | omega | exact Nat.ne_of_lt (by omega) | exact Nat.ne_of_gt (by omega))
    · rcases List.mem_cons.mp hp with rfl | hp
      · exact ⟨hacc, by dsimp only; rw [hD]; (first | omega | exact Nat.ne_of_lt (by omega) | exact Nat.ne_of_gt (by omega)), hD₀⟩
      · exact ⟨old _ _ (N p hp).1, (N p hp).2⟩
  exact codeAny_compStart_list (loop _ rfl) (wpAny_pyIter_listiter hit₁ (loop _ rfl))
end
end Mine

namespace Mine
open PySem PySem.W PyProof.Rows
-- lines without use: the walk keeps its table of lines for as long as their number is the same
local macro_rules | `(tactic| walk_at "mine line 0") => `(tactic| fail)
local macro_rules | `(tactic| walk_at "mine line 1") => `(tactic| fail)
local macro_rules | `(tactic| walk_at "mine line 2") => `(tactic| fail)
local macro_rules | `(tactic| walk_at "mine line 3") => `(tactic| fail)
local macro_rules | `(tactic| walk_at "mine line 4") => `(tactic| fail)
local macro_rules | `(tactic| walk_at "mine line 5") => `(tactic| fail)
local macro_rules | `(tactic| walk_at "mine line 6") => `(tactic| fail)
local macro_rules | `(tactic| walk_at "mine line 7") => `(tactic| fail)
local macro_rules | `(tactic| walk_at "mine line 8") => `(tactic| fail)
local macro_rules | `(tactic| walk_at "mine line 9") => `(tactic| fail)
local macro_rules | `(tactic| walk_at "mine line 10") => `(tactic| fail)
local macro_rules | `(tactic| walk_at "mine line 11") => `(tactic| fail)
local macro_rules | `(tactic| walk_at "mine enter") => `(tactic| (
  (refine' code_def ?k1 ?k2 ?k3 ?k4 ?k5 ?kA ?kF ?kK ?k6 ?k7 ?k8 ?k9 ?kB ?_ ?c2 ?c3 ?c4 ?c5; (case kA => exact rfl); (case kF => exact rfl); (case kK => assumption); (case k1 => k_asm); (case k2 => k_asm); (case k3 => k_asm); (case k4 => k_asm); (case k5 => k_asm); (case k6 => k_is); (case k7 => k_is); (case k8 => ktr_room); (case k9 => exact BindsTo.of_eq rfl); (case c5 => decide); (case kB => exact locs rfl); (case c2 => exact rfl); (case c3 => exact rfl); (case c4 => exact rfl); k_whole)))
theorem be16_size (n : Int) : (be16 n).size = 2 := rfl
theorem be32_size (n : Int) : (be32 n).size = 4 := by unfold be32; rw [Array.size_append]; rfl
def body (rs : List (Int × Int × Int)) : Array UInt8 := (rs.map fun q => be32 q.1 ++ be32 q.2.1 ++ be32 q.2.2).foldl (· ++ ·) #[]
def outB (rs : List (Int × Int × Int)) : Array UInt8 := be16 12 ++ be16 0 ++ be32 (16 + ((body rs).size : Int)) ++ be32 0 ++ be32 (rs.length : Int) ++ body rs
local macro_rules | `(tactic| walk_at "compareOp NotEq ref ref") => `(tactic| (k_dflt (refine' ne_rows ?N ?R ?l ?T ?u ?_; (case N => k_asm); (case R => k_mem); (case l => k_mem); (case T => exact Tups3.mono (fun _ h => List.mem_cons_of_mem _ h) (by assumption)); (case u => ktr_units)); (simp only [ne_eq, List.append_eq_nil_iff, List.cons_ne_self, reduceCtorEq, and_false, not_false_eq_true, not_true_eq_false, decide_true, decide_false])))
local macro_rules | `(tactic| walk_at "subscriptTail") => `(tactic| (k_here; (with_reducible show wpAny _ _ (subscriptTail _ _ (Value.ref _) (Value.int (-1) _)) _ _ _); k_dflt (refine' get_last ?N ?R ?_ ?s; (case N => k_asm); (case R => k_mem); (case s => with_unfolding_all rfl))))
local macro_rules | `(tactic| walk_at "subscriptTail") => `(tactic| (k_here; (with_reducible show wpAny _ _ (subscriptTail _ _ (Value.ref _) (Value.int 2 _)) _ _ _); k_dflt (refine' tup_item (j := 2) ?N ?R rfl (by decide) rfl ?_ ?s; (case N => k_asm); (case R => k_mem); (case s => with_unfolding_all rfl))))
local macro_rules | `(tactic| walk_at "subscriptTail") => `(tactic| (k_here; (with_reducible show wpAny _ _ (subscriptTail _ _ (Value.ref _) (Value.int 1 _)) _ _ _); k_dflt (refine' tup_item (j := 1) ?N ?R rfl (by decide) rfl ?_ ?s; (case N => k_asm); (case R => k_mem); (case s => with_unfolding_all rfl))))
local macro_rules | `(tactic| walk_at "subscriptTail") => `(tactic| (k_here; (with_reducible show wpAny _ _ (subscriptTail _ _ (Value.ref _) (Value.int 0 _)) _ _ _); k_dflt (refine' tup_item (j := 0) ?N ?R rfl (by decide) rfl ?_ ?s; (case N => k_asm); (case R => k_mem); (case s => with_unfolding_all rfl))))
local macro_rules | `(tactic| walk_at "subscriptTail") => `(tactic| (k_here; (with_reducible show wpAny _ _ (subscriptTail (Expr.Name (Str.ofString "codes") _) _ (Value.ref _) (Value.int _ _)) _ _ _); k_dflt (refine' dict_item ?N ?R ?lo ?d ?f ?k ?_ ?s ?g; (case N => k_asm); (case R => k_mem); (case lo => assumption); (case d => assumption); (case f => assumption); (case k => assumption); (case s => with_unfolding_all rfl); (case g => (intro _; with_unfolding_all rfl))); intro _))
local macro_rules | `(tactic| walk_at "setItem ref int") => `(tactic| (k_here; (with_reducible show wpAny _ _ (setItem (Value.ref _) (Value.int (-1) _) _) _ _ _); k_dflt (refine' set_last_K ?F ?N ?U ?_; (case F => k_asm); (case N => k_asm); (case U => k_upd)); intro _ _ _))
local macro_rules | `(tactic| walk_at "eval ListComp") => `(tactic| refine hold ?_)
local macro_rules | `(tactic| walk_at "getMethod bytes") => `(tactic| (k_here; (with_reducible refine join_method ?_)))
local macro_rules | `(tactic| walk_at "call builtin:bytes.join") => `(tactic| refine hold ?_)
local macro_rules | `(tactic| walk_at "call ref") => `(tactic| (
  k_dflt (refine' Ret.use (put16_ok _ _ _ _) ?k1 ?k2 ?k3 ?k4 ?k5 ?kK ?kd ?ku ?_; (case k1 => k_asm); (case k2 => k_asm); (case k3 => k_asm); (case k4 => k_asm); (case k5 => k_asm); (case kK => first | exact rfl | assumption); (case kd => ktr_room); (case ku => ktr_units));
  intro r9 n9 h9 tk9 F9 N9 P9; obtain ⟨e9, t9, f9⟩ := P9; subst e9; subst f9; (try dsimp only); (try k_fold)))
local macro_rules | `(tactic| walk_at "call ref") => `(tactic| (
  k_dflt (refine' Ret.use (put32_ok _ _ _ _) ?k1 ?k2 ?k3 ?k4 ?k5 ?kK ?kd ?ku ?_; (case k1 => k_asm); (case k2 => k_asm); (case k3 => k_asm); (case k4 => k_asm); (case k5 => k_asm); (case kK => first | exact rfl | assumption); (case kd => ktr_room); (case ku => ktr_units));
  intro r9 n9 h9 tk9 F9 N9 P9; obtain ⟨e9, t9, f9⟩ := P9; subst e9; subst f9; (try dsimp only); (try k_fold)))
local macro_rules | `(tactic| walk_at "call builtin:len") => `(tactic| (k_here; (with_reducible show wpAny _ _ (call (Value.builtin "len") [Value.ref _]) _ _ _); k_dflt (refine' kst_len ?N ?m ?e ?f ?_; (case N => k_asm); (case m => k_mem); (case e => assumption); (case f => omega))))
local macro_rules | `(tactic| walk_at "binaryOp Add bytes bytes") => `(tactic| (k_here; (with_reducible show wpAny _ _ (binaryOp Operator.Add (Value.bytes _ _) (Value.bytes _ _)) _ _ _); (refine KBy.add_bytes (by simp only [Array.size_append, be16_size, be32_size]; omega) ?_); intro _ _))
local macro_rules | `(tactic| walk_at "execs cons") => `(tactic| ((with_reducible refine wpAny_execs_cons ?_); try dsimp only))
local macro_rules | `(tactic| walk_at "call builtin:sorted") => `(tactic| refine hold ?_)
local macro_rules | `(tactic| walk_at "pyIter ref") => `(tactic| refine hold ?_)

def rowStep (val : Int → Int) (rows : List (Int × Int × Int)) (k : Int) : List (Int × Int × Int) :=
  match rows.getLast? with
  | some q => if q.2.1 = k - 1 ∧ q.2.2 + k - q.1 = val k then rows.dropLast ++ [(q.1, k, q.2.2)] else rows ++ [(k, k, val k)]
  | none => [(k, k, val k)]
def rowsOf (val : Int → Int) (ns : List Int) : List (Int × Int × Int) := ns.foldl (rowStep val) []
theorem rowsOf_snoc (val : Int → Int) (ns : List Int) (k : Int) : rowsOf val (ns ++ [k]) = rowStep val (rowsOf val ns) k := by
  unfold rowsOf; rw [List.foldl_append]; rfl
theorem tup_ne_list : Value.type "tuple" ≠ Value.type "list" := by decide
theorem news_ne {h₀ h : Heap} {L a b : Addr} {o₁ o₂ : Obj} {l : List (Addr × Obj)} (N : News h₀ L h l) (h1 : (a, o₁) ∈ l) (h2 : (b, o₂) ∈ l) (hne : o₁.cls ≠ o₂.cls) : a ≠ b := fun e => by
  have e1 := (N _ h1).1
  have e2 := (N _ h2).1
  dsimp only at e1 e2
  rw [e, e2] at e1
  exact hne (congrArg Obj.cls (Option.some.inj e1).symm)
theorem mem_mid {p x y : Addr × Obj} {l l' l'' : List (Addr × Obj)} (h : p ∈ x :: y :: l ++ l') : p ∈ x :: y :: l ++ (l' ++ l'') := by
  simp only [List.cons_append, List.mem_cons, List.mem_append] at h ⊢
  rcases h with h | h | h | h
  · exact .inl h
  · exact .inr (.inl h)
  · exact .inr (.inr (.inl h))
  · exact .inr (.inr (.inr (.inl h)))
theorem rowStep_len (val : Int → Int) (rows : List (Int × Int × Int)) (k : Int) : (rowStep val rows k).length ≤ rows.length + 1 := by
  unfold rowStep
  split
  · split
    · simp only [List.length_append, List.length_dropLast, List.length_cons, List.length_nil]; omega
    · simp only [List.length_append, List.length_cons, List.length_nil]; omega
  · simp
theorem rowStep_same {val : Int → Int} {rs : List (Int × Int × Int)} {f l g k : Int} (h1 : l = k - 1) (h2 : g + k - f = val k) : rowStep val (rs ++ [(f, l, g)]) k = rs ++ [(f, k, g)] := by
  unfold rowStep
  rw [List.getLast?_append]
  simp [h1, h2]
theorem rowStep_new {val : Int → Int} {rs : List (Int × Int × Int)} {f l g k : Int} (h : ¬ (l = k - 1 ∧ g + k - f = val k)) : rowStep val (rs ++ [(f, l, g)]) k = (rs ++ [(f, l, g)]) ++ [(k, k, val k)] := by
  unfold rowStep
  rw [List.getLast?_append]
  simp only [List.getLast?_singleton, Option.some_or]
  rw [if_neg h]
theorem row_sub1 {x y z u v w : Addr × Obj} {r r' : List (Addr × Obj)} (h : r = r') : ∀ p ∈ x :: u :: v :: w :: r, p ∈ x :: y :: z :: u :: v :: w :: r' := by
  subst h
  intro p hp
  simp only [List.mem_cons] at hp ⊢
  rcases hp with h | h | h | h | h
  · exact .inl h
  · exact .inr (.inr (.inr (.inl h)))
  · exact .inr (.inr (.inr (.inr (.inl h))))
  · exact .inr (.inr (.inr (.inr (.inr (.inl h)))))
  · exact .inr (.inr (.inr (.inr (.inr (.inr h)))))
theorem row_sub0 {x y u v w : Addr × Obj} {r r' : List (Addr × Obj)} (h : r = r') : ∀ p ∈ x :: u :: v :: w :: r, p ∈ x :: y :: u :: v :: w :: r' := by
  subst h
  intro p hp
  simp only [List.mem_cons] at hp ⊢
  rcases hp with h | h | h | h | h
  · exact .inl h
  · exact .inr (.inr (.inl h))
  · exact .inr (.inr (.inr (.inl h)))
  · exact .inr (.inr (.inr (.inr (.inl h))))
  · exact .inr (.inr (.inr (.inr (.inr h))))
theorem rowsOf_len (val : Int → Int) (ns : List Int) : (rowsOf val ns).length ≤ ns.length := by
  have : ∀ (ns : List Int) (acc : List (Int × Int × Int)), (ns.foldl (rowStep val) acc).length ≤ acc.length + ns.length := by
    intro ns
    induction ns with
    | nil => intro acc; simp
    | cons k r ih =>
      intro acc
      rw [List.foldl_cons, List.length_cons]
      have h1 := ih (rowStep val acc k)
      have h2 := rowStep_len val acc k
      omega
  simpa [rowsOf] using this ns []
theorem be_sizes (rs : List (Int × Int × Int)) : ((rs.map fun q => be32 q.1 ++ be32 q.2.1 ++ be32 q.2.2).map (·.size)).sum = 12 * rs.length := by
  induction rs with
  | nil => rfl
  | cons q r ih =>
    simp only [List.map_cons, List.sum_cons, List.length_cons, ih]
    have : (be32 q.1 ++ be32 q.2.1 ++ be32 q.2.2).size = 12 := by simp [be32, be16]
    rw [this]; omega
structure WSt where
  vs : List Value
  rs : List (Int × Int × Int)
  n : Nat
theorem has_of {c : List (Int × Int)} {ns : List Int} {k : Int} (hp : List.Perm ns (c.map (·.1))) (hk : k ∈ ns) : kdfHas c k = true := by
  obtain ⟨p, hp, e⟩ := List.mem_map.mp (hp.mem_iff.mp hk)
  exact List.any_eq_true.mpr ⟨p, hp, decide_eq_true e⟩

theorem row_end {h₀ h' : Heap} {L R D d t : Addr} {m₀ m' : Str → Option Value} {own tl ownL news' : List (Addr × Obj)} {oD o ot : Obj} {s₁ : Shared} {tk : Nat} {x : Str} {pre : List Int} {P : List Int → WSt → Prop} (c : WSt)
    (hsep : KdSep ownL tl (R :: D :: d :: own.map (·.1))) (F : Fr h₀ L h' m') (N : News h₀ L h' news')
    (hn : ∀ p ∈ (t, ot) :: (R, listOf c.vs.toArray c.n) :: (D, oD) :: (d, o) :: (own ++ (tl ++ ownL)), p ∈ news')
    (hR : R < t) (hD : D < t) (hd : d < t) (hown : ∀ p ∈ own ++ (tl ++ ownL), p.1 < t)
    (hr : ∀ z, z ≠ x → m' z = m₀ z) (hf : Tups3 (· ∈ (t, ot) :: ((D, oD) :: (d, o) :: own ++ tl)) c.vs c.rs) (hp : P pre c) :
    InvEndG h₀ L (KdS (fun q : WSt => [(R, listOf q.vs.toArray q.n)]) ((D, oD) :: (d, o) :: own) (fun _ => []) (fun nw q => Tups3 (· ∈ nw) q.vs q.rs) x [] m₀ P (R :: D :: d :: own.map (·.1)) pre) ownL s₁ { s₁ with heap := h', toks := tk } := by
  refine kd_end (tl := tl) c [(t, ot)] hsep F N (fun p hp => hn p ?_) (fun p hp => hn p ?_) rfl ?_ ?_ (fun _ h => (nomatch h)) (fun z h1 _ _ => hr z h1) (hf.mono ?_) hp
  · simp only [List.mem_cons, List.mem_append, List.not_mem_nil, or_false] at hp ⊢
    rcases hp with h | (h | h | h) | h | h
    · exact .inr (.inl h)
    · exact .inr (.inr (.inl h))
    · exact .inr (.inr (.inr (.inl h)))
    · exact .inr (.inr (.inr (.inr (.inl h))))
    · exact .inl h
    · exact .inr (.inr (.inr (.inr (.inr (.inl h)))))
  · simp only [List.mem_cons, List.mem_append]
    exact .inr (.inr (.inr (.inr (.inr (.inr hp)))))
  · intro q hq b hb
    rw [List.mem_singleton.mp hq]
    rcases List.mem_cons.mp hb with e | hb
    · rw [e]; exact ne_lt hR
    · rcases List.mem_cons.mp hb with e | hb
      · rw [e]; exact ne_lt hD
      · rcases List.mem_cons.mp hb with e | hb
        · rw [e]; exact ne_lt hd
        · obtain ⟨p, hp, e⟩ := List.mem_map.mp hb
          rw [← e]
          exact ne_lt (hown p (List.mem_append_left _ hp))
  · intro q hq p hp
    rw [List.mem_singleton.mp hq]
    exact ne_lt (hown p (List.mem_append_right _ (List.mem_append_right _ hp)))
  · intro p hp
    simp only [List.mem_cons, List.mem_append, List.not_mem_nil, or_false] at hp ⊢
    rcases hp with h | (h | h | h) | h
    · exact .inr (.inl h)
    · exact .inl (.inl h)
    · exact .inl (.inr (.inl h))
    · exact .inl (.inr (.inr h))
    · exact .inr (.inr h)

set_option maxRecDepth 100000 in
set_option maxHeartbeats 8000000 in
theorem write_ok (w : World) (d : Addr) (o : Obj) (kvs : List (Int × Value)) (c : List (Int × Int)) (own : List (Addr × Obj)) (hdo : o.IsDictOf (PySem.intKind PySem.Challenge.rw_xm0702_01.row.prog w) kvs) (hf : PyProof.V.FlatPairs PyData.int kvs (kdfD c)) (hlo : (d == sysModules) = false)
   (hnd : (c.map (·.1)).Nodup) (hlen : c.length ≤ 16) :
   Ret 3 w 33 [.ref d] ((d, o) :: own) (fun r news' => news' = (d, o) :: own ∧ ∃ (ns : List Int) (t : Tok), ns.Perm (c.map (·.1)) ∧ ns.Pairwise (· ≤ ·) ∧ r = .bytes (outB (rowsOf (fun k => kdfLook c k 0) ns)) t) := by
  w_top off
  unfold Ret
  intro mean mg mb dp un gd cn cs aF ccd cl outer A₀ base h₀ L m s Q E B F X N T hk hd hu hret
  refine wpAny_call ?_
  k_dflt (walk_at "mine enter"; intro g' L' h' FG' F' N' B' X' T'; (try dsimp only); (try k_fold))
  k_steps
  rename_i R hR lR h1 F1 N1
  unfold Hold
  have hTab : IntTab PySem.Challenge.rw_xm0702_01.row.prog w h1 d (kdfD c) := TabAt.ofObj hlo (N1 (d, o) (.tail _ (.head _))).1 hdo hf
  refine sorted_dict (by rfl) F1 N1 hTab (by omega) ?_
  intro D h2 tk2 vs ns e F2 N2 l2 hi hp ho
  (try k_lt l2)
  k_steps
  unfold Hold
  have hDR : R < D := l2.1
  with_unfolding_all refine' kd_listI (σ := WSt) (fun q => [(R, listOf q.vs.toArray q.n)]) ((D, listOf vs.toArray e) :: (d, o) :: own) (fun _ => []) (fun nw q => Tups3 (· ∈ nw) q.vs q.rs) [] (fun pre q => q.rs = rowsOf (fun k => kdfLook c k 0) pre) (R :: D :: d :: own.map (·.1)) ⟨[], [], 0⟩ (by rfl) (.head _) hi F2 N2 ?hn ?ha ?hf ?hk ?hp ?turn ?done
  case hn =>
    intro p hp
    simp only [List.append_nil, List.mem_cons, List.mem_append, List.not_mem_nil, or_false] at hp ⊢
    rcases hp with h | h | h | h
    · exact .inr (.inl h)
    · exact .inl h
    · exact .inr (.inr (.inl h))
    · exact .inr (.inr (.inr h))
  case ha => intro c; rfl
  case hf => trivial
  case hk => exact fun _ h => (nomatch h)
  case hp => rfl
  case turn =>
    intro q tl pre post k t u h3 tk3 ownL hns hk hsep hoff hT hI F3 N3
    obtain ⟨us, rs, n⟩ := q
    replace F3 : Fr g' L' h3 _ := F3
    replace N3 : News g' L' h3 _ := N3
    dsimp only at hT hI F3 N3
    have hhas := has_of hp hk
    have hlus : us.length ≤ 16 := by
      have e1 := hT.length
      have e2 := rowsOf_len (fun k => kdfLook c k 0) pre
      have e3 := hp.length_eq
      rw [List.length_map] at e3
      have e4 : ns.length = pre.length + (post.length + 1) := by rw [hns, List.length_append, List.length_cons]
      rw [← hI] at e2
      omega
    rcases List.eq_nil_or_concat rs with rfl | ⟨rs', q, rfl⟩
    · obtain rfl : us = [] := List.eq_nil_of_length_eq_zero hT.length
      have hoR : OwnOff (own ++ (tl ++ ownL)) [R] := off_app (fun p hp b hb => by rw [List.mem_singleton.mp hb]; exact ne_lt (kst_ltOf lR.2 p hp)) fun p hp b hb => hoff p hp b (by rw [List.mem_singleton.mp hb]; exact List.mem_cons_self ..)
      have hT3 : Tups3 (· ∈ (R, listOf ([] : List Value).toArray n) :: (D, listOf vs.toArray e) :: (d, o) :: (own ++ (tl ++ ownL))) [] [] := trivial
      generalize hR2 : own ++ (tl ++ ownL) = R2 at hoR hT3
      replace N3 : News g' L' h3 ((R, listOf ([] : List Value).toArray n) :: (D, listOf vs.toArray e) :: (d, o) :: R2) := fun p hp => by
        rw [← hR2] at hp
        exact N3 p hp
      (try k_fold)
      k_steps
      rename_i t' _ l9 h9 F9 N9
      simp only [List.push_toArray] at N9
      refine' row_end (t := t') ⟨[] ++ [Value.ref t'], [] ++ [(k, k, kdfLook c k 0)], n + 1⟩ hsep F9 N9 ?hn l9.2.1 l9.2.2.1 l9.2.2.2.1 ?hown ?hr ?hf ?hp
      case hn => exact row_sub0 hR2
      case hown => exact fun p hp => kst_ltOf l9.2.2.2.2 p (by rw [← hR2]; exact hp)
      case hr => intro z h1; simp [h1, kstB]
      case hf => exact Tups3.snoc (vs := []) (cs := []) (List.mem_cons_self ..) trivial
      case hp => dsimp only; rw [rowsOf_snoc, ← hI]; rfl
    · rw [List.concat_eq_append] at *
      obtain ⟨us', tq, t1, t2, t3, rfl, hT', hq⟩ := hT.last
      obtain ⟨qf, ql, qg⟩ := q
      dsimp only at hq
      have hqR : @Ne Nat tq R := news_ne N3 (List.mem_cons_of_mem _ (mem_mid hq)) (List.mem_cons_self ..) tup_ne_list
      have hoR : OwnOff (own ++ (tl ++ ownL)) [R] := off_app (fun p hp b hb => by rw [List.mem_singleton.mp hb]; exact ne_lt (kst_ltOf lR.2 p hp)) fun p hp b hb => hoff p hp b (by rw [List.mem_singleton.mp hb]; exact List.mem_cons_self ..)
      have hT3 : Tups3 (· ∈ (tq, ({ cls := .type "tuple", data := .seq #[.int qf t1, .int ql t2, .int qg t3] } : Obj)) :: (R, listOf (us' ++ [Value.ref tq]).toArray n) :: (D, listOf vs.toArray e) :: (d, o) :: (own ++ (tl ++ ownL))) (us' ++ [Value.ref tq]) (rs' ++ [(qf, ql, qg)]) := hT.mono fun p hp => List.mem_cons_of_mem _ (List.mem_cons_of_mem _ (mem_mid hp))
      generalize hR2 : own ++ (tl ++ ownL) = R2 at hoR hT3
      replace N3 : News g' L' h3 ((tq, ({ cls := .type "tuple", data := .seq #[.int qf t1, .int ql t2, .int qg t3] } : Obj)) :: (R, listOf (us' ++ [Value.ref tq]).toArray n) :: (D, listOf vs.toArray e) :: (d, o) :: R2) := fun p hp => by
        rcases List.mem_cons.mp hp with rfl | hp
        · exact N3 _ (List.mem_cons_of_mem _ (mem_mid hq))
        · rw [← hR2] at hp
          exact N3 p hp
      clear hT
      have hlu' : us'.length ≤ 16 := by rw [List.length_append] at hlus; omega
      (try k_fold)
      k_steps
      · rename_i _ _ _ c1 _ c2 t' _ _ _ l9 h9 F9 N9
        refine' row_end (t := t') ⟨us' ++ [Value.ref t'], rs' ++ [(qf, k, qg)], n⟩ hsep F9 N9 ?hn l9.2.2.1 l9.2.2.2.1 l9.2.2.2.2.1 ?hown ?hr ?hf ?hp
        case hn => exact row_sub1 hR2
        case hown => exact fun p hp => kst_ltOf l9.2.2.2.2.2 p (by rw [← hR2]; exact hp)
        case hr => intro z h1; simp [h1, kstB]
        case hf => exact Tups3.snoc (List.mem_cons_self ..) (hT'.mono fun p hp => List.mem_cons_of_mem _ hp)
        case hp => dsimp only; rw [rowsOf_snoc, ← hI]; exact (rowStep_same (val := fun k => kdfLook c k 0) c1 c2).symm
      · rename_i _ _ _ c1 _ c2 _ t' _ l9 h9 F9 N9
        simp only [List.push_toArray] at N9
        refine' row_end (t := t') ⟨(us' ++ [Value.ref tq]) ++ [Value.ref t'], (rs' ++ [(qf, ql, qg)]) ++ [(k, k, kdfLook c k 0)], n + 1⟩ hsep F9 N9 ?hn l9.2.2.1 l9.2.2.2.1 l9.2.2.2.2.1 ?hown ?hr ?hf ?hp
        case hn => exact row_sub1 hR2
        case hown => exact fun p hp => kst_ltOf l9.2.2.2.2.2 p (by rw [← hR2]; exact hp)
        case hr => intro z h1; simp [h1, kstB]
        case hf => exact Tups3.snoc (List.mem_cons_self ..) (Tups3.snoc (List.mem_cons_of_mem _ hq) (hT'.mono fun p hp => List.mem_cons_of_mem _ hp))
        case hp => dsimp only; rw [rowsOf_snoc, ← hI]; exact (rowStep_new (val := fun k => kdfLook c k 0) fun e => c2 e.2).symm
      · rename_i _ _ _ c1 _ t' _ l9 h9 F9 N9
        simp only [List.push_toArray] at N9
        refine' row_end (t := t') ⟨(us' ++ [Value.ref tq]) ++ [Value.ref t'], (rs' ++ [(qf, ql, qg)]) ++ [(k, k, kdfLook c k 0)], n + 1⟩ hsep F9 N9 ?hn l9.2.2.1 l9.2.2.2.1 l9.2.2.2.2.1 ?hown ?hr ?hf ?hp
        case hn => exact row_sub1 hR2
        case hown => exact fun p hp => kst_ltOf l9.2.2.2.2.2 p (by rw [← hR2]; exact hp)
        case hr => intro z h1; simp [h1, kstB]
        case hf => exact Tups3.snoc (List.mem_cons_self ..) (Tups3.snoc (List.mem_cons_of_mem _ hq) (hT'.mono fun p hp => List.mem_cons_of_mem _ hp))
        case hp => dsimp only; rw [rowsOf_snoc, ← hI]; exact (rowStep_new (val := fun k => kdfLook c k 0) fun e => c1 e.1).symm
  case done =>
    intro q tl u h3 tk3 hoff hT hI F3 N3
    obtain ⟨us, rs, n⟩ := q
    replace F3 : Fr g' L' h3 _ := F3
    replace N3 : News g' L' h3 _ := N3
    dsimp only at hT hI F3 N3
    (try k_fold)
    k_steps
    unfold Hold
    have hlus : us.length ≤ 16 := by
      have e1 := hT.length
      have e2 := rowsOf_len (fun k => kdfLook c k 0) ns
      have e3 := hp.length_eq
      rw [List.length_map] at e3
      rw [← hI] at e2
      omega
    replace N3 : News g' L' h3 ((R, listOf us.toArray n) :: (D, listOf vs.toArray e) :: (d, o) :: own ++ tl) := N3
    refine' comp3 (f := fun q => be32 q.1 ++ be32 q.2.1 ++ be32 q.2.2) (by rfl) F3 N3 (.head _) (hT.mono fun p hp => List.mem_cons_of_mem _ hp) (by omega) (by with_unfolding_all rfl) (by decide) rfl (by decide) rfl rfl rfl (by decide) (by decide) (by decide) (fun Q' hq => ld F3 (by rfl) hq) (by intro _; rfl) ?turn ?done
    case turn =>
      intro q t1 t2 t3 I oI C oC Dc oDc m2 h4 tk4 E' hC hm1 hm2 hm3 F4 N4
      (try k_fold)
      k_steps
      all_goals k_asm
    case done =>
      intro Dl h4 tk4 ys F4 N4 l4 hB
      k_steps
      unfold Hold
      have hsz := be_sizes rs
      refine call_join (N4 _ (List.mem_cons_self ..)).1 hB (by rw [hsz]; have := hT.length; omega) fun tj tkj => ?_
      have hfs : ((rs.map fun q => be32 q.1 ++ be32 q.2.1 ++ be32 q.2.2).foldl (· ++ ·) #[]).size = 12 * rs.length := by rw [foldl_app_size, hsz]; simp
      generalize hfb : (rs.map fun q => be32 q.1 ++ be32 q.2.1 ++ be32 q.2.2).foldl (· ++ ·) #[] = fb at hfs
      have hul : us.length = rs.length := hT.length
      have hfs2 : fb.size ≤ 192 := by omega
      k_steps
      rename_i _ _ _ F9 N9 _ _
      subst hfb
      subst hI
      refine hret _ _ _ _ (by k_asm) (news_sub (l' := (d, o) :: own) (by k_asm) ?_) ⟨rfl, ns, _, hp, ho, rfl⟩
      intro p hp
      simp only [List.mem_cons, List.mem_append] at hp ⊢
      rcases hp with h | h
      · exact .inr (.inl (.inr (.inr (.inl h))))
      · exact .inr (.inl (.inr (.inr (.inr h))))
end Mine

namespace Mine
open PySem PySem.W PyProof.Rows PySem.Calls PyProof.Rows.LCg PyProof.Rows.LCt
set_option maxRecDepth 100000
section
variable {prog : Program} {w : World} {A : Around} {E : Value → Shared → Prop} {s : Shared} {h₀ : Heap} {L : Addr} {m : Str → Option Value} {env : Env} {news : List (Addr × Obj)}
theorem ints_snoc {n : Int} {t : Tok} : ∀ {vs : List Value} {ns : List Int}, IntsAre vs ns → IntsAre (vs ++ [.int n t]) (ns ++ [n])
  | _, _, .nil => .cons n t .nil
  | _, _, .cons k u r => .cons k u (ints_snoc r)

theorem restT {ct elt : Expr} {x : Str} {scope : Scope} {cl : List (Str × Addr)} {S : List (Addr × Obj) → Prop} {Fin : List Value → List (Addr × Obj) → Prop} {vs : List Value} {ns : List Int} {p : Int → Bool}
    (hi : IntsAre vs ns) (hS : S news) (hfin : ∀ ys, IntsAre ys (ns.filter p) → Fin ys news)
    (test : ∀ n t I oI C oC D oD m₂ h tk (E' : Value → Shared → Prop), n ∈ ns → NsObj oC m₂ → m₂ x = some (.int n t) → Fr h₀ L h m → News h₀ L h ((I, oI) :: (C, oC) :: (D, oD) :: news) →
      wpAny (model prog w) A (isTrue ct (compEnvC scope cl C env) (eval ct (compEnvC scope cl C env))) (fun ok s' => ∃ h' tk', s' = { s with heap := h', toks := tk' } ∧ ok = p n ∧ Fr h₀ L h' m ∧ News h₀ L h' ((I, oI) :: (C, oC) :: (D, oD) :: news)) E' { s with heap := h, toks := tk })
    (item : ∀ n t I oI C oC D oD m₂ h tk (E' : Value → Shared → Prop), NsObj oC m₂ → m₂ x = some (.int n t) → Fr h₀ L h m → News h₀ L h ((I, oI) :: (C, oC) :: (D, oD) :: news) →
      wpAny (model prog w) A (eval elt (compEnvC scope cl C env)) (fun y s' => ∃ h' tk' t', s' = { s with heap := h', toks := tk' } ∧ y = .int n t' ∧ Fr h₀ L h' m ∧ News h₀ L h' ((I, oI) :: (C, oC) :: (D, oD) :: news)) E' { s with heap := h, toks := tk }) :
    ∀ (k i : Nat) (ys : List Value), i + k = ns.length → IntsAre ys ((ns.take i).filter p) → CompRestT prog w A h₀ L m env ct elt x scope cl s S (fun i v => vs.toArray[i]? = some v) Fin k i ys news := by
  intro k
  induction k with
  | zero =>
    intro i ys hik hy
    rw [List.take_of_length_le (by omega)] at hy
    exact CompRestT.zero (hfin ys hy)
  | succ k ih =>
    intro i ys hik hy
    refine CompRestT.succ fun v I oI C oC D m₂ h tk E' hv hC hx F N off hne => ?_
    have hlt : i < ns.length := by omega
    obtain ⟨t, hx'⟩ := hi.get i ns[i] (List.getElem?_eq_getElem hlt)
    have ev : v = .int ns[i] t := by
      have hv' : vs[i]? = some v := by simpa using hv
      rw [hx'] at hv'
      exact (Option.some.inj hv').symm
    subst ev
    have hns : ns.take (i + 1) = ns.take i ++ [ns[i]] := by rw [List.take_add_one, List.getElem?_eq_getElem hlt]; rfl
    refine wpAny_mono (test _ t I oI C oC D (lst ys) m₂ h tk E' (List.getElem_mem hlt) hC hx F N) (fun ok s' hq => ?_) fun _ _ e => e
    obtain ⟨h1, tk1, rfl, hok, F1, N1⟩ := hq
    cases hp : p ns[i] with
    | true =>
      rw [hok, hp, if_pos rfl]
      refine wpAny_mono (item _ t I oI C oC D (lst ys) m₂ h1 tk1 E' hC hx F1 N1) (fun y s' hq => ?_) fun _ _ e => e
      obtain ⟨h2, tk2, t', rfl, rfl, F2, N2⟩ := hq
      refine ⟨h2, tk2, news, rfl, F2, N2, off, hS, ih (i + 1) _ (by omega) ?_⟩
      rw [hns, List.filter_append, List.filter_cons_of_pos hp]
      exact ints_snoc hy
    | false =>
      rw [hok, hp, if_neg Bool.false_ne_true]
      refine ⟨h1, tk1, news, rfl, F1, N1, off, hS, ih (i + 1) _ (by omega) ?_⟩
      rw [hns, List.filter_append, List.filter_cons_of_neg (by rw [hp]; exact Bool.false_ne_true)]
      simpa using hy
end
end Mine

namespace Mine
open PySem PySem.W PyProof.Rows
-- lines without use: the walk keeps its table of lines for as long as their number is the same
local macro_rules | `(tactic| walk_at "mine line 0") => `(tactic| fail)
local macro_rules | `(tactic| walk_at "mine line 1") => `(tactic| fail)
local macro_rules | `(tactic| walk_at "mine line 2") => `(tactic| fail)
local macro_rules | `(tactic| walk_at "mine line 3") => `(tactic| fail)
local macro_rules | `(tactic| walk_at "mine line 4") => `(tactic| fail)
local macro_rules | `(tactic| walk_at "mine line 5") => `(tactic| fail)
local macro_rules | `(tactic| walk_at "mine line 6") => `(tactic| fail)
local macro_rules | `(tactic| walk_at "mine line 7") => `(tactic| fail)
local macro_rules | `(tactic| walk_at "mine line 8") => `(tactic| fail)
local macro_rules | `(tactic| walk_at "mine line 9") => `(tactic| fail)
local macro_rules | `(tactic| walk_at "mine line 10") => `(tactic| fail)
local macro_rules | `(tactic| walk_at "mine line 11") => `(tactic| fail)
local macro_rules | `(tactic| walk_at "mine line 12") => `(tactic| fail)
local macro_rules | `(tactic| walk_at "mine line 13") => `(tactic| fail)
local macro_rules | `(tactic| walk_at "mine line 14") => `(tactic| fail)
local macro_rules | `(tactic| walk_at "mine line 15") => `(tactic| fail)
local macro_rules | `(tactic| walk_at "mine line 16") => `(tactic| fail)
local macro_rules | `(tactic| walk_at "mine line 17") => `(tactic| fail)
local macro_rules | `(tactic| walk_at "mine line 18") => `(tactic| fail)
local macro_rules | `(tactic| walk_at "mine line 19") => `(tactic| fail)
local macro_rules | `(tactic| walk_at "mine line 20") => `(tactic| fail)
local macro_rules | `(tactic| walk_at "mine line 21") => `(tactic| fail)
local macro_rules | `(tactic| walk_at "mine line 22") => `(tactic| fail)
local macro_rules | `(tactic| walk_at "mine line 23") => `(tactic| fail)
local macro_rules | `(tactic| walk_at "mine line 24") => `(tactic| fail)
local macro_rules | `(tactic| walk_at "mine line 25") => `(tactic| fail)
local macro_rules | `(tactic| walk_at "mine line 26") => `(tactic| fail)
local macro_rules | `(tactic| walk_at "mine line 27") => `(tactic| fail)
local macro_rules | `(tactic| walk_at "mine line 28") => `(tactic| fail)
local macro_rules | `(tactic| walk_at "mine line 29") => `(tactic| fail)
local macro_rules | `(tactic| walk_at "mine enterC") => `(tactic| (
  (refine' code_defC ?k1 ?k2 ?k3 ?k4 ?k5 ?kA ?kF ?kK ?k6 ?k7 ?k8 ?k9 ?kB ?kD ?_ ?c2 ?c3 ?c4; (case kA => exact rfl); (case kF => exact rfl); (case kK => assumption); (case k1 => k_asm); (case k2 => k_asm); (case k3 => k_asm); (case k4 => k_asm); (case k5 => k_asm); (case k6 => k_is); (case k7 => k_is); (case k8 => ktr_room); (case k9 => exact BindsTo.of_eq rfl); (case kB => exact rfl); (case kD => decide +kernel); (case c2 => exact rfl); (case c3 => exact rfl); (case c4 => exact rfl); k_whole)))

section
variable {prog : Program} {w : World} {A : Around} {E : Value → Shared → Prop} {s : Shared} {h₀ : Heap} {L : Addr} {news : List (Addr × Obj)}
theorem dict_getm {d : Addr} {o : Obj} {kvs : List (Int × Value)} {c : List (Int × Int)} {pl : Sem Bool} {Q : Value × List Value → Shared → Prop} (N : News h₀ L s.heap news) (hm : (d, o) ∈ news) (hlo : (d == sysModules) = false) (hd : o.IsDictOf (PySem.intKind prog w) kvs) (hf : PyProof.V.FlatPairs PyData.int kvs (kdfD c))
    (h : Q (.builtin "dict.get", [.ref d]) s) : wpAny (model prog w) A (getMethod (.ref d) "get" pl) Q E s :=
  getMethod_intTab_get (TabAt.ofObj hlo (N _ hm).1 hd hf) h
theorem dict_get2 {d : Addr} {o : Obj} {kvs : List (Int × Value)} {c : List (Int × Int)} {k e : Int} {tk te : Tok} {Q : Value → Shared → Prop} (N : News h₀ L s.heap news) (hm : (d, o) ∈ news) (hlo : (d == sysModules) = false) (hd : o.IsDictOf (PySem.intKind prog w) kvs) (hf : PyProof.V.FlatPairs PyData.int kvs (kdfD c))
    (h : ∀ t, Q (.int (kdfLook c k e) t) { s with toks := s.toks + 1 }) : wpAny (model prog w) A (call (.builtin "dict.get") [.ref d, .int k tk, .int e te]) Q E s :=
  kdf_get2 (TabAt.ofObj hlo (N _ hm).1 hd hf) h
end
local macro_rules | `(tactic| walk_at "call builtin:sorted") => `(tactic| refine hold ?_)
local macro_rules | `(tactic| walk_at "pyIter ref") => `(tactic| refine hold ?_)
local macro_rules | `(tactic| walk_at "CompSrcT") => `(tactic| refine hold ?_)
local macro_rules | `(tactic| walk_at "execs cons") => `(tactic| ((with_reducible refine wpAny_execs_cons ?_); try dsimp only))
local macro_rules | `(tactic| walk_at "getMethod ref") => `(tactic| (k_here; (with_reducible show wpAny _ _ (getMethod (Value.ref _) (PySem.Str.ofString "get") _) _ _ _); k_dflt (refine' dict_getm ?N ?R ?lo ?d ?f ?_; (case N => k_asm); (case R => k_mem); (case lo => assumption); (case d => assumption); (case f => assumption))))
local macro_rules | `(tactic| walk_at "call builtin:dict.get") => `(tactic| (k_here; (with_reducible show wpAny _ _ (call (Value.builtin "dict.get") [Value.ref _, Value.int _ _, Value.int _ _]) _ _ _); k_dflt (refine' dict_get2 ?N ?R ?lo ?d ?f ?_; (case N => k_asm); (case R => k_mem); (case lo => assumption); (case d => assumption); (case f => assumption)); intro _))
local macro_rules | `(tactic| walk_at "subscriptTail") => `(tactic| (k_here; (with_reducible show wpAny _ _ (subscriptTail (Expr.Name (Str.ofString "codes") _) _ (Value.ref _) (Value.int _ _)) _ _ _); k_dflt (refine' dict_item ?N ?R ?lo ?d ?f ?k ?_ ?s ?g; (case N => k_asm); (case R => k_mem); (case lo => assumption); (case d => assumption); (case f => assumption); (case k => assumption); (case s => with_unfolding_all rfl); (case g => (intro _; with_unfolding_all rfl))); intro _))

section
variable {prog : Program} {w : World} {A : Around} {E : Value → Shared → Prop} {s : Shared} {h₀ : Heap} {L : Addr} {news : List (Addr × Obj)}
theorem item_intsM {value slice : Expr} {l : Addr} {vs : List Value} {ns : List Int} {n : Nat} {k : Int} {u : Tok} {Q : Value → Shared → Prop} (N : News h₀ L s.heap news) (hm : (l, listOf vs.toArray n) ∈ news) (hi : IntsAre vs ns)
    (h0 : 0 ≤ k) (h1 : k < ns.length) (hs1 : ns.length ≤ 64) (h : ∀ t, Q (.int (ns.getD k.toNat 0) t) s)
    (hs : subscripted slice false (.ref l) (.int k u) = operate [.ref l, .int k u] (getItem (.ref l) (.int k u)) := by with_unfolding_all rfl) (hg : ∀ r, letTemporaryGo value (.ref l) r = pure () := by intro _; with_unfolding_all rfl) :
    wpAny (model prog w) A (subscriptTail value slice (.ref l) (.int k u)) Q E s :=
  item_list_ints ⟨_, (N _ hm).1, rfl, n, rfl⟩ hi h0 h1 (by omega) h hs hg
theorem add_intsM {a b : Addr} {vs ws : List Value} {ns ms : List Int} {n k : Nat} {m : Str → Option Value} {Q : Value → Shared → Prop} (F : Fr h₀ L s.heap m) (N : News h₀ L s.heap news) (ha : (a, listOf vs.toArray n) ∈ news) (hb : (b, listOf ws.toArray k) ∈ news) (hi : IntsAre vs ns) (hj : IntsAre ws ms)
    (hz : ns.length + ms.length ≤ 1000) (h : ∀ D us h', Fr h₀ L h' m → News h₀ L h' ((D, listOf (List.toArray us) 0) :: news) → (∀ p ∈ news, p.1 < D) → IntsAre us (ns ++ ms) → Q (.ref D) { s with heap := h' }) : wpAny (model prog w) A (binaryOp .Add (.ref a) (.ref b)) Q E s :=
  kmk_add_ints F N ⟨_, (N _ ha).1, rfl, n, rfl⟩ ⟨_, (N _ hb).1, rfl, k, rfl⟩ hi hj h (by rw [sizeLine_eq]; omega)
theorem ints3 {a b c : Int} {ta tb tc : Tok} : IntsAre [.int a ta, .int b tb, .int c tc] [a, b, c] := by
  exact .cons _ _ (.cons _ _ (.cons _ _ .nil))
end
local macro_rules | `(tactic| walk_at "subscriptTail") => `(tactic| (k_here; (with_reducible show wpAny _ _ (subscriptTail (Expr.Name _ _) _ (Value.ref _) (Value.int _ _)) _ _ _); k_dflt (refine' item_intsM ?N ?R ?i ?a ?b ?c ?_ ?s ?g; (case N => k_asm); (case R => k_mem); (case i => assumption); (case a => omega); (case b => omega); (case c => omega); (case s => with_unfolding_all rfl); (case g => (intro _; with_unfolding_all rfl))); intro _))
local macro_rules | `(tactic| walk_at "binaryOp Add ref ref") => `(tactic| (k_here; (with_reducible show wpAny _ _ (binaryOp _ (Value.ref _) (Value.ref _)) _ _ _); k_dflt (refine' add_intsM ?F ?N ?a ?b ?i ?j ?z ?_; (case F => k_asm); (case N => k_asm); (case a => k_mem); (case b => k_mem); (case i => assumption); (case j => exact ints3); (case z => (simp only [List.length_cons, List.length_nil]; omega))); intro D' us' h' F' N' l1 hI'; (try k_lt l1); (try k_sweep)))
def dueAt (c : List (Int × Int)) (fs ls : List Int) (i : Nat) : List Int := [12 * 65536, 16 + 12 * (fs.length : Int), 0, (fs.length : Int)] ++ ((List.range i).map fun j => [fs.getD j 0, ls.getD j 0, kdfLook c (fs.getD j 0) 0]).flatten
theorem dueAt_snoc (c : List (Int × Int)) (fs ls : List Int) (i : Nat) : dueAt c fs ls (i + 1) = dueAt c fs ls i ++ [fs.getD i 0, ls.getD i 0, kdfLook c (fs.getD i 0) 0] := by
  unfold dueAt
  rw [List.range_succ, List.map_append, List.flatten_append]
  simp
theorem dueAt_len (c : List (Int × Int)) (fs ls : List Int) : ∀ i : Nat, (dueAt c fs ls i).length = 4 + 3 * i
  | 0 => rfl
  | i + 1 => by
    rw [dueAt_snoc, List.length_append, dueAt_len c fs ls i]
    simp only [List.length_cons, List.length_nil]; omega
theorem getD_mem {l : List Int} {i : Nat} (h : i < l.length) : l.getD i 0 ∈ l := by simp [List.getD, h]
structure DSt where
  l : Addr
  vs : List Value
  n : Nat
theorem due_end {h₀ h' : Heap} {L l' l d : Addr} {m₀ m' : Str → Option Value} {cst tl ownL own R : List (Addr × Obj)} {o o' ol : Obj} {s₁ : Shared} {tk : Nat} {x : Str} {pre : List Int} {P : List Int → DSt → Prop} {adr : List Addr} (q : DSt)
    (hsep : KdSep ownL tl adr) (F : Fr h₀ L h' m') (N : News h₀ L h' ((q.l, listOf q.vs.toArray q.n) :: (l', o') :: (l, ol) :: R)) (hR : ∀ p ∈ cst ++ (tl ++ ownL), p ∈ R) (hadr : cst.map (·.1) = adr)
    (hlt : ∀ p ∈ cst ++ (tl ++ ownL), p.1 < l') (hlt2 : l' < q.l) (hk : m' (Str.ofString "found") = some (.ref q.l)) (hr : ∀ z, z ≠ x → z ≠ Str.ofString "found" → m' z = m₀ z) (hp : P pre q) :
    InvEndG h₀ L (KdS (fun _ : DSt => []) cst (fun q => [(Str.ofString "found", .ref q.l)]) (fun nw q => (q.l, listOf q.vs.toArray q.n) ∈ nw) x [] m₀ P adr pre) ownL s₁ { s₁ with heap := h', toks := tk } := by
  have hlt3 : ∀ p ∈ cst ++ (tl ++ ownL), p.1 < q.l := fun p hp => Nat.lt_trans (hlt p hp) hlt2
  refine kd_end (tl := tl) q [(q.l, listOf q.vs.toArray q.n), (l', o')] hsep F N ?_ ?_ hadr ?_ ?_ ?_ ?_ ?_ hp
  · intro p hp
    simp only [List.nil_append, List.cons_append, List.mem_append, List.mem_cons] at hp
    rcases hp with h | h | h | h
    · exact .tail _ (.tail _ (.tail _ (hR p (List.mem_append_left _ h))))
    · rw [h]; exact .head _
    · rw [h]; exact .tail _ (.head _)
    · exact .tail _ (.tail _ (.tail _ (hR p (List.mem_append_right _ (List.mem_append_left _ h)))))
  · intro p hp
    exact .tail _ (.tail _ (.tail _ (hR p (List.mem_append_right _ (List.mem_append_right _ hp)))))
  · intro r hr b hb
    rw [← hadr] at hb
    obtain ⟨p, hp, e⟩ := List.mem_map.mp hb
    rw [← e]
    simp only [List.mem_cons, List.not_mem_nil, or_false] at hr
    rcases hr with h | h
    · rw [h]; exact ne_lt (hlt3 p (List.mem_append_left _ hp))
    · rw [h]; exact ne_lt (hlt p (List.mem_append_left _ hp))
  · intro r hr p hp
    simp only [List.mem_cons, List.not_mem_nil, or_false] at hr
    rcases hr with h | h
    · rw [h]; exact ne_lt (hlt3 p (List.mem_append_right _ (List.mem_append_right _ hp)))
    · rw [h]; exact ne_lt (hlt p (List.mem_append_right _ (List.mem_append_right _ hp)))
  · exact List.forall_mem_cons.mpr ⟨hk, fun _ h => (nomatch h)⟩
  · intro z h1 h2 _
    exact hr z h1 (h2 _ (List.mem_cons_self ..))
  · exact List.mem_append_right _ (List.mem_cons_self ..)
def isFirst (c : List (Int × Int)) (k : Int) : Bool := kdfLook c (k - 1) (-2) != kdfLook c k 0 - 1
def isLast (c : List (Int × Int)) (k : Int) : Bool := kdfLook c (k + 1) (-2) != kdfLook c k 0 + 1
def firstsOf (c : List (Int × Int)) (ns : List Int) : List Int := ns.filter (isFirst c)
def lastsOf (c : List (Int × Int)) (ns : List Int) : List Int := ns.filter (isLast c)

set_option maxRecDepth 100000 in
set_option maxHeartbeats 8000000 in
theorem due_ok (w : World) (d : Addr) (o : Obj) (kvs : List (Int × Value)) (c : List (Int × Int)) (own : List (Addr × Obj)) (hdo : o.IsDictOf (PySem.intKind PySem.Challenge.rw_xm0702_01.row.prog w) kvs) (hf : PyProof.V.FlatPairs PyData.int kvs (kdfD c)) (hlo : (d == sysModules) = false)
   (hnd : (c.map (·.1)).Nodup) (hlen : c.length ≤ 16) (hlen2 : ∀ ns : List Int, ns.Perm (c.map (·.1)) → ns.Pairwise (· ≤ ·) → (ns.filter (isLast c)).length = (ns.filter (isFirst c)).length) :
   Ret 1 w 66 [.ref d] ((d, o) :: own) (fun r news' => ∃ (l : Addr) (us : List Value) (n : Nat) (ns : List Int), r = .ref l ∧ ns.Perm (c.map (·.1)) ∧ ns.Pairwise (· ≤ ·) ∧ IntsAre us (dueAt c (ns.filter (isFirst c)) (ns.filter (isLast c)) (ns.filter (isFirst c)).length) ∧ (∀ p ∈ (d, o) :: own, p.1 ≠ l) ∧ news' = (l, listOf us.toArray n) :: (d, o) :: own) := by
  w_top off
  unfold Ret
  intro mean mg mb dp un gd cn cs aF ccd cl outer A₀ base h₀ L m s Q E B F X N T hk hd hu hret
  refine wpAny_call ?_
  k_dflt (walk_at "mine enterC"; intro g' L' h' tk' cells' FG' F' N' Y' B' X' T' l1; (try k_lt l1); k_cells Y'; (try simp only [List.cons_append, List.nil_append] at N'); (try dsimp only); (try k_fold))
  k_steps
  rename_i oc hoc
  unfold Hold
  have hTab : IntTab PySem.Challenge.rw_xm0702_01.row.prog w h' d (kdfD c) := TabAt.ofObj hlo (N' (d, o) (.tail _ (.head _))).1 hdo hf
  refine sorted_dict (by rfl) F' N' hTab (by omega) ?_
  intro D h2 tk2 vs ns e F2 N2 l2 hi hp ho
  (try k_lt l2)
  k_steps
  unfold Hold
  rename_i h3 F3 N3
  have hcl : ns.length ≤ 16 := by
    have e3 := hp.length_eq
    rw [List.length_map] at e3
    omega
  have hvl := hi.length
  refine LCt.CompSrcT.ledger (by rfl) F3 N3 (.head _) (by rw [List.size_toArray, sizeLine_eq]; omega) fun g3 => ?_
  rw [List.size_toArray, hvl]
  refine restT (p := isFirst c) hi (.inr ⟨_, .head _, rfl, _, rfl⟩) ?fin ?test ?item ns.length 0 [] (Nat.zero_add _) (by exact .nil)
  case test =>
    intro k t I oI C oC Dc oDc m2 h4 tk4 E' hk hC hm F4 N4
    have hhas := has_of hp hk
    (try k_fold)
    k_steps
    all_goals k_asm
  case item =>
    intro k t I oI C oC Dc oDc m2 h4 tk4 E' hC hm F4 N4
    (try k_fold)
    k_steps
    all_goals k_asm
  case fin =>
    intro ys hy D2 h5 tk5 F5 N5 off5
    (try k_fold)
    k_steps
    unfold Hold
    refine LCt.CompSrcT.ledger (by rfl) F5 N5 (.tail _ (.head _)) (by rw [List.size_toArray, sizeLine_eq]; omega) fun g5 => ?_
    rw [List.size_toArray, hvl]
    refine restT (p := isLast c) hi (.inr ⟨_, .tail _ (.head _), rfl, _, rfl⟩) ?fin ?test ?item ns.length 0 [] (Nat.zero_add _) (by exact .nil)
    case test =>
      intro k t I oI C oC Dc oDc m2 h4 tk4 E' hk hC hm F4 N4
      have hhas := has_of hp hk
      (try k_fold)
      k_steps
      all_goals k_asm
    case item =>
      intro k t I oI C oC Dc oDc m2 h4 tk4 E' hC hm F4 N4
      (try k_fold)
      k_steps
      all_goals k_asm
    case fin =>
      intro zs hz D3 h6 tk6 F6 N6 off6
      have hfl : (ns.filter (isFirst c)).length ≤ 16 := Nat.le_trans (List.length_filter_le _ _) hcl
      have hyl := hy.length
      (try k_fold)
      k_steps
      rename_i l0 _ lt0 _ _ _ h9 tk9 t1 u1 v1 rg F9 N9 keep9
      unfold Hold
      have hzl := hz.length
      have hlf : (ns.filter (isLast c)).length = (ns.filter (isFirst c)).length := hlen2 ns hp ho
      have hfh : ∀ k ∈ ns.filter (isFirst c), kdfHas c k = true := fun k hk => has_of hp (List.mem_filter.mp hk).1
      clear keep9; (try clear F6); (try clear F5); (try clear F3); (try clear F2); (try clear N6); (try clear N5); (try clear N3); (try clear N2)
      generalize hfs : ns.filter (isFirst c) = fs at *
      generalize hls : ns.filter (isLast c) = ls at *
      have hN : ∃ vs0 nn, IntsAre vs0 (dueAt c fs ls 0) ∧ News g' L' h9 ((l0, listOf vs0.toArray nn) :: (D3, listOf zs.toArray zs.length) :: (D2, listOf ys.toArray ys.length) :: (D, listOf vs.toArray e) :: (L' + 1, oc) :: (d, o) :: own) := ⟨_, _, .cons _ _ (.cons _ _ (.cons _ _ (.cons _ _ .nil))), N9⟩
      clear N9
      obtain ⟨vs0, nn, hi0, N9⟩ := hN
      with_unfolding_all refine' kd_range (σ := DSt) (fun _ => []) ((l0, listOf vs0.toArray nn) :: (D3, listOf zs.toArray zs.length) :: (D2, listOf ys.toArray ys.length) :: (D, listOf vs.toArray e) :: (L' + 1, oc) :: (d, o) :: own) (fun q => [(Str.ofString "found", .ref q.l)]) (fun nw q => (q.l, listOf q.vs.toArray q.n) ∈ nw) [] (fun pre q => IntsAre q.vs (dueAt c fs ls pre.length) ∧ ∀ p ∈ (d, o) :: own, p.1 ≠ q.l) (l0 :: D3 :: D2 :: D :: (L' + 1) :: d :: own.map (·.1)) ⟨l0, vs0, nn⟩ (by rfl) rg (small_one (by omega) (by omega) (by omega) (by omega)) (rangeSize_nat _ _) F9 N9 ?hn ?ha ?hf ?hk ?hp ?turn ?done
      case hn => intro p hp; simpa using hp
      case ha => intro c; rfl
      case hf => exact List.mem_cons_self ..
      case hk => kst_all
      case hp =>
        refine ⟨hi0, fun p hp => ?_⟩
        obtain ⟨_, _, _, _, k6, k7⟩ := lt0
        rcases List.mem_cons.mp hp with h | h
        · rw [h]; exact ne_lt k6
        · exact ne_lt (kst_ltOf k7 p h)
      case turn =>
        intro q tl pre k t u h10 tk10 ownL hk hlt hsep hoff hT hI F10 N10
        obtain ⟨l, us, n⟩ := q
        replace F10 : Fr g' L' h10 _ := F10
        replace N10 : News g' L' h10 _ := N10
        dsimp only at hT hI F10 N10
        replace hI := hI.1
        have hk0 : 0 ≤ k := by omega
        have hk1 : k < fs.length := by omega
        have hk2 : k < ls.length := by omega
        have hil := dueAt_len c fs ls pre.length
        have hhas := hfh (fs.getD k.toNat 0) (getD_mem (by omega))
        have hmem : (l, listOf us.toArray n) ∈ (l0, listOf vs0.toArray nn) :: (D3, listOf zs.toArray zs.length) :: (D2, listOf ys.toArray ys.length) :: (D, listOf vs.toArray e) :: (L' + 1, oc) :: (d, o) :: (own ++ (tl ++ ownL)) := by
          have e9 : ∀ p, p ∈ own ++ tl → p ∈ own ++ (tl ++ ownL) := fun p hp => by
            rw [← List.append_assoc]; exact List.mem_append_left _ hp
          have e8 : ∀ (x : Addr × Obj) (a b : List (Addr × Obj)), (∀ p, p ∈ a → p ∈ b) → ∀ p, p ∈ x :: a → p ∈ x :: b := fun x a b h p hp => by
            rcases List.mem_cons.mp hp with h9 | h9
            · rw [h9]; exact List.mem_cons_self ..
            · exact List.mem_cons_of_mem _ (h p h9)
          exact e8 _ _ _ (e8 _ _ _ (e8 _ _ _ (e8 _ _ _ (e8 _ _ _ (e8 _ _ _ e9))))) _ hT
        generalize hR2 : own ++ (tl ++ ownL) = R2 at hmem
        replace N10 : News g' L' h10 ((l, listOf us.toArray n) :: (l0, listOf vs0.toArray nn) :: (D3, listOf zs.toArray zs.length) :: (D2, listOf ys.toArray ys.length) :: (D, listOf vs.toArray e) :: (L' + 1, oc) :: (d, o) :: R2) := fun p hp => by
          rw [← hR2] at hp
          rcases List.mem_cons.mp hp with h | h
          · rw [h]; rw [← hR2] at hmem; exact N10 _ hmem
          · exact N10 p h
        (try k_fold)
        k_steps
        rename_i l' _ lA D' us' _ hI' lB h11 F11 N11
        have hks : k.toNat = pre.length := by omega
        refine' due_end (x := Str.ofString "place") (d := d) (o := o) (own := own) ⟨D', us', 0⟩ hsep F11 N11 ?hR ?hadr ?hlt lB.1 ?hk2 ?hr ?hp
        case hR =>
          intro p hp
          rw [← hR2]
          exact hp
        case hadr => rfl
        case hlt =>
          intro p hp
          have hp : p ∈ (l0, listOf vs0.toArray nn) :: (D3, listOf zs.toArray zs.length) :: (D2, listOf ys.toArray ys.length) :: (D, listOf vs.toArray e) :: (L' + 1, oc) :: (d, o) :: (own ++ (tl ++ ownL)) := hp
          rw [hR2] at hp
          obtain ⟨_, k1, k2, k3, k4, k5, k6, k7⟩ := lA
          simp only [List.mem_cons] at hp
          rcases hp with h | h | h | h | h | h | h
          · rw [h]; exact k1
          · rw [h]; exact k2
          · rw [h]; exact k3
          · rw [h]; exact k4
          · rw [h]; exact k5
          · rw [h]; exact k6
          · exact kst_ltOf k7 p h
        case hk2 => (with_unfolding_all rfl)
        case hr => intro z h1 h2; simp [h1, h2, kstB]
        case hp =>
          refine ⟨?_, fun p hp => ?_⟩
          · show IntsAre us' (dueAt c fs ls (pre ++ [k]).length)
            rw [List.length_append, List.length_singleton, dueAt_snoc]
            rw [hks] at hI'
            exact hI'
          · obtain ⟨_, _, _, _, _, _, _, k6, k7⟩ := lB
            rcases List.mem_cons.mp hp with h | h
            · rw [h]; exact ne_lt k6
            · exact ne_lt (kst_ltOf k7 p (by rw [← hR2]; exact List.mem_append_left _ h))
      case done =>
        intro q tl u h10 tk10 hoff hT hI F10 N10
        obtain ⟨l, us, n⟩ := q
        replace F10 : Fr g' L' h10 _ := F10
        replace N10 : News g' L' h10 _ := N10
        dsimp only at hT hI F10 N10
        rw [rangeKs_length] at hI
        obtain ⟨hI, hne⟩ := hI
        (try k_fold)
        k_steps
        subst hfs
        subst hls
        refine hret _ ((l, listOf us.toArray n) :: (d, o) :: own) _ _ (by k_asm) (news_sub (by k_asm) ?_) ⟨l, us, n, ns, rfl, hp, ho, hI, hne, rfl⟩
        intro p hp
        rcases List.mem_cons.mp hp with h | h
        · rw [h]; exact hT
        · exact List.mem_append_right [] (List.mem_append_left _ (.tail _ (.tail _ (.tail _ (.tail _ (.tail _ h))))))
end Mine

namespace Mine
open PySem PySem.W PyProof.Rows

/-- the number that octets spell, greatest first -/
def word (ks : List Int) : Int := ks.foldl (fun a b => a * 256 + b) 0
def enc4 (n : Int) : List Int := KBw.bInts (be32 n)
theorem bInts_app (a b : Array UInt8) : KBw.bInts (a ++ b) = KBw.bInts a ++ KBw.bInts b := by
  unfold KBw.bInts
  rw [Array.toList_append, List.map_append]
theorem toU8 {k : Int} (h0 : 0 ≤ k) (h1 : k < 256) : (((k.toNat.toUInt8).toNat : Nat) : Int) = k := by
  have : (k.toNat.toUInt8).toNat = k.toNat % 256 := rfl
  rw [this]
  omega
theorem enc4_eq (n : Int) : enc4 n = [n / 65536 / 256 % 256, n / 65536 % 256, n / 256 % 256, n % 256] := by
  have e : enc4 n = [(((((n.fdiv 65536).fdiv 256).fmod 256).toNat.toUInt8).toNat : Int), ((((n.fdiv 65536).fmod 256).toNat.toUInt8).toNat : Int), ((((n.fdiv 256).fmod 256).toNat.toUInt8).toNat : Int), (((n.fmod 256).toNat.toUInt8).toNat : Int)] := rfl
  rw [e]
  simp only [fm_em (by decide : (0 : Int) ≤ 256), fd_ed (by decide : (0 : Int) ≤ 256), fd_ed (by decide : (0 : Int) ≤ 65536)]
  rw [toU8 (by omega) (by omega), toU8 (by omega) (by omega), toU8 (by omega) (by omega), toU8 (by omega) (by omega)]
theorem enc4_len (n : Int) : (enc4 n).length = 4 := by rw [enc4_eq]; rfl
theorem word_enc4 {n : Int} (h0 : 0 ≤ n) (h1 : n < 4294967296) : word (enc4 n) = n := by
  rw [enc4_eq]
  show (((0 * 256 + _) * 256 + _) * 256 + _) * 256 + _ = n
  omega
/-- the numbers that are told of octets -/
def wordsOf (ks : List Int) (m : Nat) : List Int := (List.range m).map fun i => word ((ks.drop (4 * i)).take 4)
theorem flat_len (ns : List Int) : ((ns.map enc4).flatten).length = 4 * ns.length := by
  induction ns with
  | nil => rfl
  | cons n r ih =>
    rw [List.map_cons, List.flatten_cons, List.length_append, ih, enc4_len, List.length_cons]; omega
theorem words_flat : ∀ (ns : List Int), (∀ n ∈ ns, 0 ≤ n ∧ n < 4294967296) → wordsOf ((ns.map enc4).flatten) ns.length = ns
  | [], _ => rfl
  | n :: r, h => by
    have ih := words_flat r fun x hx => h x (List.mem_cons_of_mem _ hx)
    have hn := h n (List.mem_cons_self ..)
    unfold wordsOf at ih ⊢
    rw [List.length_cons, List.range_succ_eq_map, List.map_cons, List.map_cons, List.flatten_cons, List.map_map]
    have e0 : ((enc4 n ++ (r.map enc4).flatten).drop (4 * 0)).take 4 = enc4 n := by
      rw [show 4 * 0 = 0 from rfl, List.drop_zero]
      exact List.take_left' (enc4_len n)
    rw [e0, word_enc4 hn.1 hn.2]
    congr 1

def numsOf (rs : List (Int × Int × Int)) : List Int := (rs.map fun q => [q.1, q.2.1, q.2.2]).flatten
theorem body_ints_go : ∀ (rs : List (Int × Int × Int)) (a : Array UInt8), KBw.bInts ((rs.map fun q => be32 q.1 ++ be32 q.2.1 ++ be32 q.2.2).foldl (· ++ ·) a) = KBw.bInts a ++ ((numsOf rs).map enc4).flatten
  | [], a => by simp [numsOf]
  | q :: r, a => by
    rw [List.map_cons, List.foldl_cons, body_ints_go r]
    simp only [bInts_app, numsOf, List.map_cons, List.flatten_cons, List.map_append, List.flatten_append, List.append_assoc]
    show _ ++ (enc4 _ ++ (enc4 _ ++ (enc4 _ ++ _))) = _ ++ (enc4 _ ++ (enc4 _ ++ (enc4 _ ++ _)))
    simp [numsOf]
theorem body_ints (rs : List (Int × Int × Int)) : KBw.bInts (body rs) = ((numsOf rs).map enc4).flatten := by
  unfold body
  rw [body_ints_go]
  simp [KBw.bInts]
theorem nums_len (rs : List (Int × Int × Int)) : (numsOf rs).length = 3 * rs.length := by
  unfold numsOf
  induction rs with
  | nil => rfl
  | cons q r ih => rw [List.map_cons, List.flatten_cons, List.length_append, ih, List.length_cons]; simp only [List.length_cons, List.length_nil]; omega
theorem body_size (rs : List (Int × Int × Int)) : (body rs).size = 12 * rs.length := by
  rw [← KBw.ints_length, body_ints, flat_len, nums_len]; omega
theorem out_ints (rs : List (Int × Int × Int)) : KBw.bInts (outB rs) = (([12 * 65536, 16 + 12 * (rs.length : Int), 0, (rs.length : Int)] ++ numsOf rs).map enc4).flatten := by
  unfold outB
  simp only [bInts_app, body_ints, List.map_append, List.flatten_append, body_size]
  congr 1

/-- what the rows are, of rising keys: where a row begins, where it ends -/
theorem rows_go {val : Int → Int} {fi la : Int → Bool} {ns : List Int} (h0 : ∀ k post, ns = k :: post → fi k = true)
    (h1 : ∀ pre p k post, ns = pre ++ p :: k :: post → (fi k = false ↔ p = k - 1 ∧ val p + 1 = val k) ∧ la p = fi k) :
    ∀ (n : Nat) (pre : List Int) (p : Int) (post : List Int), pre.length = n → ns = pre ++ p :: post →
      ∃ rs q, rowsOf val (pre ++ [p]) = rs ++ [q] ∧ (rs ++ [q]).map (·.1) = (pre ++ [p]).filter fi ∧ rs.map (·.2.1) = pre.filter la ∧ q.2.1 = p ∧ (∀ r ∈ rs ++ [q], r.2.2 = val r.1) ∧ val p = q.2.2 + p - q.1 := by
  intro n
  induction n with
  | zero =>
    intro pre p post hl hns
    obtain rfl := List.eq_nil_of_length_eq_zero hl
    have := h0 p post hns
    refine ⟨[], (p, p, val p), rfl, ?_, rfl, rfl, ?_, ?_⟩
    · simp [this]
    · intro r hr
      simp only [List.nil_append, List.mem_singleton] at hr
      rw [hr]
    · dsimp only; omega
  | succ n ih =>
    intro pre k post hl hns
    rcases List.eq_nil_or_concat pre with rfl | ⟨pre', p, rfl⟩
    · simp at hl
    · rw [List.concat_eq_append] at *
      have hns' : ns = pre' ++ p :: k :: post := by rw [hns]; simp
      obtain ⟨rs, q, e1, e2, e3, e4, e5, e6⟩ := ih pre' p (k :: post) (by simpa using hl) hns'
      obtain ⟨i1, i2⟩ := h1 pre' p k post hns'
      obtain ⟨f, l, g⟩ := q
      dsimp only at e4 e6
      have eg : g = val f := e5 (f, l, g) (by simp)
      rw [rowsOf_snoc, e1]
      by_cases hc : l = k - 1 ∧ g + k - f = val k
      · have hf : fi k = false := i1.mpr ⟨by omega, by omega⟩
        have hlp : la p = false := i2.trans hf
        refine ⟨rs, (f, k, g), rowStep_same hc.1 hc.2, ?_, ?_, rfl, ?_, ?_⟩
        · rw [List.filter_append, ← e2]; simp [hf]
        · rw [List.filter_append, ← e3]; simp [hlp]
        · intro r hr
          rcases List.mem_append.mp hr with h | h
          · exact e5 r (List.mem_append_left _ h)
          · rw [List.mem_singleton.mp h]; exact eg
        · dsimp only; omega
      · have hf : fi k = true := by
          cases hb : fi k with
          | true => rfl
          | false =>
            obtain ⟨j1, j2⟩ := i1.mp hb
            exact absurd ⟨by omega, by omega⟩ hc
        have hlp : la p = true := i2.trans hf
        refine ⟨rs ++ [(f, l, g)], (k, k, val k), rowStep_new hc, ?_, ?_, rfl, ?_, ?_⟩
        · rw [List.filter_append, ← e2]; simp [hf]
        · rw [List.filter_append, ← e3]; simp [hlp, e4]
        · intro r hr
          rcases List.mem_append.mp hr with h | h
          · exact e5 r h
          · rw [List.mem_singleton.mp h]
        · dsimp only; omega
theorem rows_are {val : Int → Int} {fi la : Int → Bool} {ns : List Int} (h0 : ∀ k post, ns = k :: post → fi k = true)
    (h1 : ∀ pre p k post, ns = pre ++ p :: k :: post → (fi k = false ↔ p = k - 1 ∧ val p + 1 = val k) ∧ la p = fi k) (h2 : ∀ pre z, ns = pre ++ [z] → la z = true) :
    (rowsOf val ns).map (·.1) = ns.filter fi ∧ (rowsOf val ns).map (·.2.1) = ns.filter la ∧ ∀ r ∈ rowsOf val ns, r.2.2 = val r.1 := by
  rcases List.eq_nil_or_concat ns with rfl | ⟨pre, z, rfl⟩
  · exact ⟨rfl, rfl, fun r h => by simp [rowsOf] at h⟩
  · rw [List.concat_eq_append] at *
    obtain ⟨rs, q, e1, e2, e3, e4, e5, e6⟩ := rows_go h0 h1 pre.length pre z [] rfl rfl
    rw [e1]
    refine ⟨e2, ?_, e5⟩
    rw [List.filter_append, ← e3]
    simp [h2 pre z rfl, e4]
theorem nums_eq : ∀ (rs : List (Int × Int × Int)) (val : Int → Int), (∀ r ∈ rs, r.2.2 = val r.1) → numsOf rs = ((List.range rs.length).map fun j => [(rs.map (·.1)).getD j 0, (rs.map (·.2.1)).getD j 0, val ((rs.map (·.1)).getD j 0)]).flatten
  | [], _, _ => rfl
  | q :: r, val, h => by
    have ih := nums_eq r val fun x hx => h x (List.mem_cons_of_mem _ hx)
    unfold numsOf at ih ⊢
    rw [List.map_cons, List.flatten_cons, ih, List.length_cons, List.range_succ_eq_map, List.map_cons, List.flatten_cons, List.map_map]
    congr 1
    rw [h q (List.mem_cons_self ..)]
    rfl
theorem find_key {c : List (Int × Int)} {k : Int} {p : Int × Int} (h : c.find? (fun p => decide (p.1 = k)) = some p) : p.1 = k := by
  have h9 := List.find?_some h
  exact of_decide_eq_true h9
theorem look_of {c : List (Int × Int)} {k : Int} (e : Int) (h : k ∈ c.map (·.1)) : kdfLook c k e = kdfLook c k 0 ∧ ∃ p ∈ c, p.1 = k ∧ kdfLook c k 0 = p.2 := by
  unfold kdfLook
  cases hf : c.find? (fun p => decide (p.1 = k)) with
  | none =>
    obtain ⟨p, hp, e⟩ := List.mem_map.mp h
    have := List.find?_eq_none.mp hf p hp
    simp [e] at this
  | some p => exact ⟨rfl, p, List.mem_of_find?_eq_some hf, find_key hf, rfl⟩
theorem look_not {c : List (Int × Int)} {k : Int} (e : Int) (h : k ∉ c.map (·.1)) : kdfLook c k e = e := by
  unfold kdfLook
  cases hf : c.find? (fun p => decide (p.1 = k)) with
  | none => rfl
  | some p => exact absurd (List.mem_map.mpr ⟨p, List.mem_of_find?_eq_some hf, find_key hf⟩) h
theorem strict_of : ∀ {ns : List Int}, ns.Nodup → ns.Pairwise (· ≤ ·) → ns.Pairwise (· < ·)
  | [], _, _ => .nil
  | k :: r, hn, ho => by
    obtain ⟨n1, n2⟩ := List.pairwise_cons.mp hn
    obtain ⟨o1, o2⟩ := List.pairwise_cons.mp ho
    refine List.pairwise_cons.mpr ⟨fun x hx => ?_, strict_of n2 o2⟩
    have a := o1 x hx
    have b := n1 x hx
    omega
section
variable {c : List (Int × Int)} {ns : List Int}
theorem first_head (hm : ∀ k, k ∈ ns ↔ k ∈ c.map (·.1)) (hs : ns.Pairwise (· < ·)) (hv : ∀ p ∈ c, 0 ≤ p.2) (k : Int) (post : List Int) (e : ns = k :: post) : isFirst c k = true := by
  have hk : k ∈ c.map (·.1) := (hm k).mp (by rw [e]; exact List.mem_cons_self ..)
  obtain ⟨_, p, hp, _, e2⟩ := look_of 0 hk
  have h1 : k - 1 ∉ c.map (·.1) := fun h => by
    have h := (hm _).mpr h
    rw [e] at h hs
    rcases List.mem_cons.mp h with h | h
    · omega
    · have := (List.pairwise_cons.mp hs).1 _ h
      omega
  unfold isFirst
  rw [look_not _ h1, bne_iff_ne]
  have := hv p hp
  omega
theorem last_end (hm : ∀ k, k ∈ ns ↔ k ∈ c.map (·.1)) (hs : ns.Pairwise (· < ·)) (hv : ∀ p ∈ c, 0 ≤ p.2) (pre : List Int) (z : Int) (e : ns = pre ++ [z]) : isLast c z = true := by
  have hk : z ∈ c.map (·.1) := (hm z).mp (by rw [e]; simp)
  obtain ⟨_, p, hp, _, e2⟩ := look_of 0 hk
  have h1 : z + 1 ∉ c.map (·.1) := fun h => by
    have h := (hm _).mpr h
    rw [e] at h hs
    rcases List.mem_append.mp h with h | h
    · have := (List.pairwise_append.mp hs).2.2 _ h z (List.mem_singleton.mpr rfl)
      omega
    · have := List.mem_singleton.mp h
      omega
  unfold isLast
  rw [look_not _ h1, bne_iff_ne]
  have := hv p hp
  omega
theorem links (hm : ∀ k, k ∈ ns ↔ k ∈ c.map (·.1)) (hs : ns.Pairwise (· < ·)) (hv : ∀ p ∈ c, 0 ≤ p.2) (pre : List Int) (p k : Int) (post : List Int) (e : ns = pre ++ p :: k :: post) :
    (isFirst c k = false ↔ p = k - 1 ∧ kdfLook c p 0 + 1 = kdfLook c k 0) ∧ isLast c p = isFirst c k := by
  have hk : k ∈ c.map (·.1) := (hm k).mp (by rw [e]; simp)
  have hp : p ∈ c.map (·.1) := (hm p).mp (by rw [e]; simp)
  obtain ⟨_, x, hx, _, ex⟩ := look_of 0 hk
  obtain ⟨_, y, hy, _, ey⟩ := look_of 0 hp
  have vx := hv x hx
  have vy := hv y hy
  have hs' := hs
  rw [e] at hs'
  obtain ⟨_, s2, s3⟩ := List.pairwise_append.mp hs'
  obtain ⟨s4, s5⟩ := List.pairwise_cons.mp s2
  obtain ⟨s6, _⟩ := List.pairwise_cons.mp s5
  have hpk : p < k := s4 k (List.mem_cons_self ..)
  have gap : ∀ z, p < z → z < k → z ∉ ns := fun z h1 h2 hz => by
    rw [e] at hz
    rcases List.mem_append.mp hz with h | h
    · have := s3 z h p (List.mem_cons_self ..); omega
    · rcases List.mem_cons.mp h with h | h
      · omega
      · rcases List.mem_cons.mp h with h | h
        · omega
        · have := s6 z h; omega
  by_cases hpe : p = k - 1
  · subst hpe
    have e1 : kdfLook c (k - 1) (-2) = kdfLook c (k - 1) 0 := (look_of (-2) hp).1
    have e2 : kdfLook c (k - 1 + 1) (-2) = kdfLook c k 0 := by rw [show k - 1 + 1 = k by omega]; exact (look_of (-2) hk).1
    have f1 : isFirst c k = decide (kdfLook c (k - 1) 0 + 1 ≠ kdfLook c k 0) := by
      unfold isFirst
      rw [e1, Bool.eq_iff_iff, bne_iff_ne, decide_eq_true_iff]
      omega
    have f2 : isLast c (k - 1) = decide (kdfLook c (k - 1) 0 + 1 ≠ kdfLook c k 0) := by
      unfold isLast
      rw [e2, Bool.eq_iff_iff, bne_iff_ne, decide_eq_true_iff]
      omega
    rw [f1, f2]
    refine ⟨?_, rfl⟩
    rw [decide_eq_false_iff_not]
    omega
  · have n1 : k - 1 ∉ c.map (·.1) := fun h => gap (k - 1) (by omega) (by omega) ((hm _).mpr h)
    have n2 : p + 1 ∉ c.map (·.1) := fun h => gap (p + 1) (by omega) (by omega) ((hm _).mpr h)
    have f1 : isFirst c k = true := by
      unfold isFirst
      rw [look_not _ n1, bne_iff_ne]
      omega
    have f2 : isLast c p = true := by
      unfold isLast
      rw [look_not _ n2, bne_iff_ne]
      omega
    rw [f1, f2]
    refine ⟨⟨fun h => (nomatch h), fun h => absurd h.1 hpe⟩, rfl⟩
theorem perm_mem (hp : ns.Perm (c.map (·.1))) : ∀ k, k ∈ ns ↔ k ∈ c.map (·.1) := fun _ => hp.mem_iff
theorem rows_law (hp : ns.Perm (c.map (·.1))) (ho : ns.Pairwise (· ≤ ·)) (hnd : (c.map (·.1)).Nodup) (hv : ∀ p ∈ c, 0 ≤ p.2) :
    (rowsOf (fun k => kdfLook c k 0) ns).map (·.1) = ns.filter (isFirst c) ∧ (rowsOf (fun k => kdfLook c k 0) ns).map (·.2.1) = ns.filter (isLast c) ∧ ∀ r ∈ rowsOf (fun k => kdfLook c k 0) ns, r.2.2 = kdfLook c r.1 0 := by
  have hs := strict_of (hp.nodup_iff.mpr hnd) ho
  have hm := perm_mem hp
  exact rows_are (val := fun k => kdfLook c k 0) (first_head hm hs hv) (links hm hs hv) (last_end hm hs hv)
theorem same_count (hnd : (c.map (·.1)).Nodup) (hv : ∀ p ∈ c, 0 ≤ p.2) (ns : List Int) (hp : ns.Perm (c.map (·.1))) (ho : ns.Pairwise (· ≤ ·)) : (ns.filter (isLast c)).length = (ns.filter (isFirst c)).length := by
  obtain ⟨h1, h2, _⟩ := rows_law hp ho hnd hv
  rw [← h1, ← h2, List.length_map, List.length_map]
end
theorem sorted_same : ∀ {xs ys : List Int}, xs.Perm ys → xs.Pairwise (· ≤ ·) → ys.Pairwise (· ≤ ·) → xs = ys
  | [], ys, h, _, _ => (List.nil_perm.mp h).symm
  | x :: xs, [], h, _, _ => absurd h.length_eq (by simp)
  | x :: xs, y :: ys, h, hx, hy => by
    obtain ⟨x1, x2⟩ := List.pairwise_cons.mp hx
    obtain ⟨y1, y2⟩ := List.pairwise_cons.mp hy
    have e : x = y := by
      have a : x ≤ y := by
        rcases List.mem_cons.mp (h.mem_iff.mpr (List.mem_cons_self ..)) with h | h
        · omega
        · exact x1 _ h
      have b : y ≤ x := by
        rcases List.mem_cons.mp (h.mem_iff.mp (List.mem_cons_self ..)) with h | h
        · omega
        · exact y1 _ h
      omega
    subst e
    rw [sorted_same h.cons_inv x2 y2]
/-- the plain law -/
theorem plain_law {c : List (Int × Int)} {ns ms : List Int} (hp : ns.Perm (c.map (·.1))) (ho : ns.Pairwise (· ≤ ·)) (hq : ms.Perm (c.map (·.1))) (hr : ms.Pairwise (· ≤ ·)) (hnd : (c.map (·.1)).Nodup) (hb : ∀ p ∈ c, 0 ≤ p.1 ∧ p.1 < 4294967296 ∧ 0 ≤ p.2 ∧ p.2 < 4294967296) (hlen : c.length ≤ 16) :
    ∃ nums : List Int, KBw.bInts (outB (rowsOf (fun k => kdfLook c k 0) ns)) = (nums.map enc4).flatten ∧ nums.length ≤ 52 ∧ dueAt c (ms.filter (isFirst c)) (ms.filter (isLast c)) (ms.filter (isFirst c)).length = nums ∧ ∀ n ∈ nums, 0 ≤ n ∧ n < 4294967296 := by
  have hv : ∀ p ∈ c, 0 ≤ p.2 := fun p h => (hb p h).2.2.1
  obtain rfl := sorted_same (hq.trans hp.symm) hr ho
  obtain ⟨h1, h2, h3⟩ := rows_law hp ho hnd hv
  have hm := perm_mem hp
  have hl := rowsOf_len (fun k => kdfLook c k 0) ms
  have hpl := hp.length_eq
  rw [List.length_map] at hpl
  generalize hrs : rowsOf (fun k => kdfLook c k 0) ms = rs at *
  have hn := nums_eq rs (fun k => kdfLook c k 0) h3
  have hfl : (ms.filter (isFirst c)).length = rs.length := by rw [← h1, List.length_map]
  refine ⟨_, out_ints rs, ?_, ?_, ?_⟩
  · rw [List.length_append, nums_len]
    simp only [List.length_cons, List.length_nil]
    omega
  · unfold dueAt
    rw [hfl, hn, h1, h2]
  · intro n hn'
    rcases List.mem_append.mp hn' with h | h
    · simp only [List.mem_cons, List.not_mem_nil, or_false] at h
      rcases h with h | h | h | h <;> omega
    · obtain ⟨l, hl', hx⟩ := List.mem_flatten.mp h
      obtain ⟨q, hq', rfl⟩ := List.mem_map.mp hl'
      have a1 : q.1 ∈ ms := (List.mem_filter.mp (by rw [← h1]; exact List.mem_map.mpr ⟨q, hq', rfl⟩)).1
      have a2 : q.2.1 ∈ ms := (List.mem_filter.mp (by rw [← h2]; exact List.mem_map.mpr ⟨q, hq', rfl⟩)).1
      have in_c : ∀ z ∈ ms, 0 ≤ z ∧ z < 4294967296 := fun z hz => by
        obtain ⟨p, hp, e⟩ := List.mem_map.mp ((hm z).mp hz)
        rw [← e]; exact ⟨(hb p hp).1, (hb p hp).2.1⟩
      obtain ⟨_, x, hx', _, ex⟩ := look_of 0 ((hm _).mp a1)
      have a3 := h3 q hq'
      have a4 := (hb x hx').2.2
      simp only [List.mem_cons, List.not_mem_nil, or_false] at hx
      rcases hx with h | h | h
      · rw [h]; exact in_c _ a1
      · rw [h]; exact in_c _ a2
      · rw [h, a3, ex]; exact a4
end Mine

namespace Mine
open PySem PySem.W PyProof.Rows PySem.Calls
set_option maxRecDepth 100000
theorem size4 {b : Int} {n : Nat} (hb : b = 4 * (n : Int)) : Builtin.Range.rangeSize 0 b 4 = (n : Int) := by
  subst hb
  unfold Builtin.Range.rangeSize
  rw [if_pos (by decide)]
  split <;> omega
theorem small4 {b : Int} {n : Nat} (hb : b = 4 * (n : Int)) (hn : n ≤ 1000) : Builtin.Range.small 0 b 4 = true := by
  unfold Builtin.Range.small
  rw [size4 hb]
  simp only [Builtin.Range.rangeFitsLong, Bool.and_eq_true, Bool.or_eq_true, decide_eq_true_eq, beq_iff_eq, show (4 : Int) > 0 by decide, if_true]
  omega
section
variable {prog : Program} {w : World} {A : Around} {E : Value → Shared → Prop} {s : Shared} {env : Env} {h₀ : Heap} {x : Str} {body : List Stmt} {Q : Flow → Shared → Prop}
/-- a loop over range(0, 4 n, 4): its state counts the turns -/
theorem loop4 {σ : Type} {r : Addr} {b : Int} {t₀ u₀ v₀ : Tok} {n : Nat} {m₀ : Str → Option Value} {news : List (Addr × Obj)} (Led : σ → List (Addr × Obj)) (cst : List (Addr × Obj)) (ps : σ → List (Str × Value)) (stored : List Str) (P : Nat → σ → Prop) (adr : List Addr) (c₀ : σ)
    (hh : A.handled = none) (hb : b = 4 * (n : Int)) (hn1 : n ≤ 1000) (hr : IsRange s.heap r 0 b 4 t₀ u₀ v₀) (F : Fr h₀ env.locals s.heap m₀) (N : News h₀ env.locals s.heap news) (hn : ∀ p ∈ Led c₀ ++ cst, p ∈ news) (hadr : ∀ c, (Led c ++ cst).map (·.1) = adr) (hk : ∀ p ∈ ps c₀, m₀ p.1 = some p.2) (hp : P 0 c₀)
    (turn : ∀ (c : σ) (tl : List (Addr × Obj)) (i : Nat) t (u : Str → Option Value) h tk own, i < n → KdSep own tl adr → OwnOff (tl ++ own) adr → P i c →
      Fr h₀ env.locals h (fun y => if y = x then some (.int (4 * (i : Int)) t) else kstB (fun z => if stored.contains z then u z else m₀ z) (ps c) y) → News h₀ env.locals h (Led c ++ (cst ++ (tl ++ own))) →
      wpAny (model prog w) A (execs body env) (InvPostG h₀ env.locals (KdS Led cst ps (fun _ _ => True) x stored m₀ P adr (i + 1)) own { s with heap := h, toks := tk } Q) E { s with heap := h, toks := tk })
    (done : ∀ (c : σ) (tl : List (Addr × Obj)) (u : Str → Option Value) h tk, OwnOff tl adr → P n c → Fr h₀ env.locals h (fun y => if y = x then u y else kstB (fun z => if stored.contains z then u z else m₀ z) (ps c) y) → News h₀ env.locals h (Led c ++ (cst ++ tl)) → Q .next { s with heap := h, toks := tk }) :
    wpAny (model prog w) A (pyIter (.ref r)) (fun it s₂ => LoopAtV prog w A h₀ env x body Q E it s₂) E s := by
  have hsz := size4 hb
  refine wpAny_pyIter_range hr (small4 hb hn1) (kdr_loop (fun i m nx => KdS Led cst ps (fun _ _ => True) x stored m₀ P adr i m nx) (Walks.range hh s.heap.objs.size 0 4 n) (fun _ h => h) (fun _ h => h) (fun i h hi b hb' => ?_) (fun hm => ?_) (fun b hb' => ?_) (fun p hp hI => ?_) ?_ (F.push _) (fun p hp => ⟨Heap.get?_push_of_some _ (N p (hn p hp)).1, (N p (hn p hp)).2⟩) ⟨c₀, [], by rw [List.append_nil], fun _ hp => (nomatch hp), trivial, hk, fun _ _ _ _ => rfl, hp⟩ ?_ ?_)
  · rw [List.mem_singleton.mp hb']; exact ⟨_, hi⟩
  · exact absurd F.ns.lt ((List.mem_singleton.mp hm) ▸ Nat.lt_irrefl _)
  · rw [List.mem_singleton.mp hb']; exact next_is_new F
  · exact absurd (Heap.lt_size (N p (hn p hp)).1) ((List.mem_singleton.mp hI) ▸ Nat.lt_irrefl _)
  · show IsRangeIter _ _ _ _ _
    rw [hsz]
    simpa using Heap.get?_push_size _ rfl
  · rintro i v m₁ nx h tk own hi ⟨t, rfl⟩ hoff ⟨c, tl, rfl, ht, _, h1, h2, hp'⟩ F₁ N₁
    have e : (0 : Int) + (i : Int) * 4 = 4 * (i : Int) := by omega
    rw [e] at F₁
    obtain ⟨o1, o2⟩ := kd_split (hadr c) hoff
    rw [List.append_assoc, List.append_assoc] at N₁
    exact turn c tl i t m₁ h tk own hi ⟨o1, o2, ht⟩ (kd_off o1 ht) hp' (kst_fr h1 h2 F₁) N₁
  · rintro m₁ nx h tk ⟨c, tl, rfl, ht, _, h1, h2, hp'⟩ F₁ N₁
    exact done c tl m₁ h tk ht hp' (kst_frOut h1 h2 F₁) N₁
end
end Mine

namespace Mine
open PySem PySem.W PyProof.Rows
-- lines without use: the walk keeps its table of lines for as long as their number is the same
local macro_rules | `(tactic| walk_at "mine line 0") => `(tactic| fail)
local macro_rules | `(tactic| walk_at "mine line 1") => `(tactic| fail)
local macro_rules | `(tactic| walk_at "mine line 2") => `(tactic| fail)
local macro_rules | `(tactic| walk_at "mine line 3") => `(tactic| fail)
local macro_rules | `(tactic| walk_at "mine line 4") => `(tactic| fail)
local macro_rules | `(tactic| walk_at "mine line 5") => `(tactic| fail)
local macro_rules | `(tactic| walk_at "mine line 6") => `(tactic| fail)
local macro_rules | `(tactic| walk_at "mine line 7") => `(tactic| fail)
local macro_rules | `(tactic| walk_at "mine line 8") => `(tactic| fail)
local macro_rules | `(tactic| walk_at "mine line 9") => `(tactic| fail)
local macro_rules | `(tactic| walk_at "mine line 10") => `(tactic| fail)
local macro_rules | `(tactic| walk_at "mine line 11") => `(tactic| fail)
local macro_rules | `(tactic| walk_at "mine line 12") => `(tactic| fail)
local macro_rules | `(tactic| walk_at "mine line 13") => `(tactic| fail)
local macro_rules | `(tactic| walk_at "mine line 14") => `(tactic| fail)
local macro_rules | `(tactic| walk_at "mine line 15") => `(tactic| fail)
local macro_rules | `(tactic| walk_at "mine line 16") => `(tactic| fail)
local macro_rules | `(tactic| walk_at "mine line 17") => `(tactic| fail)
local macro_rules | `(tactic| walk_at "mine line 18") => `(tactic| fail)
local macro_rules | `(tactic| walk_at "mine line 19") => `(tactic| fail)
local macro_rules | `(tactic| walk_at "mine line 20") => `(tactic| fail)
local macro_rules | `(tactic| walk_at "mine line 21") => `(tactic| fail)
local macro_rules | `(tactic| walk_at "mine line 22") => `(tactic| fail)
local macro_rules | `(tactic| walk_at "mine line 23") => `(tactic| fail)
local macro_rules | `(tactic| walk_at "mine line 24") => `(tactic| fail)
local macro_rules | `(tactic| walk_at "mine line 25") => `(tactic| fail)
local macro_rules | `(tactic| walk_at "mine line 26") => `(tactic| fail)
local macro_rules | `(tactic| walk_at "mine line 27") => `(tactic| fail)
local macro_rules | `(tactic| walk_at "mine line 28") => `(tactic| fail)
local macro_rules | `(tactic| walk_at "mine line 29") => `(tactic| fail)
local macro_rules | `(tactic| walk_at "mine line 30") => `(tactic| fail)
local macro_rules | `(tactic| walk_at "mine line 31") => `(tactic| fail)
local macro_rules | `(tactic| walk_at "mine line 32") => `(tactic| fail)
local macro_rules | `(tactic| walk_at "mine line 33") => `(tactic| fail)
local macro_rules | `(tactic| walk_at "mine line 34") => `(tactic| fail)
local macro_rules | `(tactic| walk_at "mine line 35") => `(tactic| fail)
local macro_rules | `(tactic| walk_at "mine line 36") => `(tactic| fail)
local macro_rules | `(tactic| walk_at "mine line 37") => `(tactic| fail)
local macro_rules | `(tactic| walk_at "mine line 38") => `(tactic| fail)
local macro_rules | `(tactic| walk_at "mine line 39") => `(tactic| fail)
local macro_rules | `(tactic| walk_at "mine enter") => `(tactic| (
  (refine' code_def ?k1 ?k2 ?k3 ?k4 ?k5 ?kA ?kF ?kK ?k6 ?k7 ?k8 ?k9 ?kB ?_ ?c2 ?c3 ?c4 ?c5; (case kA => exact rfl); (case kF => exact rfl); (case kK => assumption); (case k1 => k_asm); (case k2 => k_asm); (case k3 => k_asm); (case k4 => k_asm); (case k5 => k_asm); (case k6 => k_is); (case k7 => k_is); (case k8 => ktr_room); (case k9 => exact BindsTo.of_eq rfl); (case c5 => decide); (case kB => exact locs rfl); (case c2 => exact rfl); (case c3 => exact rfl); (case c4 => exact rfl); k_whole)))
local macro_rules | `(tactic| walk_at "execs cons") => `(tactic| ((with_reducible refine wpAny_execs_cons ?_); try dsimp only))
local macro_rules | `(tactic| walk_at "call ref") => `(tactic| (
  k_dflt (refine' Ret.use (write_ok _ _ _ _ _ _ ?a1 ?a2 ?a3 ?a4 ?a5) ?k1 ?k2 ?k3 ?k4 ?k5 ?kK ?kd ?ku ?_; (case k1 => k_asm); (case k2 => k_asm); (case k3 => k_asm); (case k4 => k_asm); (case k5 => k_asm); (case kK => first | exact rfl | assumption); (case kd => ktr_room); (case ku => ktr_units); (case a1 => assumption); (case a2 => assumption); (case a3 => assumption); (case a4 => assumption); (case a5 => assumption));
  intro r9 n9 h9 tk9 F9 N9 P9; obtain ⟨f9, ns9, t9, p9, o9, e9⟩ := P9; subst e9; subst f9; (try dsimp only); (try k_fold)))
local macro_rules | `(tactic| walk_at "call ref") => `(tactic| (
  k_dflt (refine' Ret.use (due_ok _ _ _ _ _ _ ?a1 ?a2 ?a3 ?a4 ?a5 ?a6) ?k1 ?k2 ?k3 ?k4 ?k5 ?kK ?kd ?ku ?_; (case k1 => k_asm); (case k2 => k_asm); (case k3 => k_asm); (case k4 => k_asm); (case k5 => k_asm); (case kK => first | exact rfl | assumption); (case kd => ktr_room); (case ku => ktr_units); (case a1 => assumption); (case a2 => assumption); (case a3 => assumption); (case a4 => assumption); (case a5 => assumption); (case a6 => assumption));
  intro r9 n9 h9 tk9 F9 N9 P9; obtain ⟨l9, us9, nn9, ms9, e9, p9, o9, i9, x9, f9⟩ := P9; subst e9; subst f9; (try dsimp only); (try k_fold)))
structure TSt where
  vs : List Value
  n : Nat
section
variable {prog : Program} {w : World} {A : Around} {E : Value → Shared → Prop} {s : Shared}
theorem len_flat {b : Array UInt8} {t : Tok} {nums : List Int} {Q : Value → Shared → Prop} (hk : KBw.bInts b = (nums.map enc4).flatten) (hn : nums.length ≤ 52) (h : Q (.int (4 * (nums.length : Int)) (s.toks + 1)) { s with toks := s.toks + 1 + 1 }) : wpAny (model prog w) A (call (.builtin "len") [.bytes b t]) Q E s := by
  refine KBw.len_K hk (by rw [flat_len]; omega) ?_
  have e : ((((nums.map enc4).flatten).length : Nat) : Int) = 4 * (nums.length : Int) := by rw [flat_len]; omega
  rw [e]
  exact h
end

theorem cut4 {nums : List Int} {i : Nat} (hi : i < nums.length) :
    (((nums.map enc4).flatten).drop ((some (4 * (i : Int))).elim 0 (clipAt ((nums.map enc4).flatten).length))).take ((some (4 * (i : Int) + 4)).elim ((nums.map enc4).flatten).length (clipAt ((nums.map enc4).flatten).length) - (some (4 * (i : Int))).elim 0 (clipAt ((nums.map enc4).flatten).length)) = enc4 nums[i] := by
  have e1 : clipAt ((nums.map enc4).flatten).length (4 * (i : Int)) = 4 * i := by
    have := clipAt_cast ((nums.map enc4).flatten).length (4 * (i : Int))
    rw [flat_len, if_neg (by omega)] at this
    rw [flat_len]; omega
  have e2 : clipAt ((nums.map enc4).flatten).length (4 * (i : Int) + 4) = 4 * i + 4 := by
    have := clipAt_cast ((nums.map enc4).flatten).length (4 * (i : Int) + 4)
    rw [flat_len, if_neg (by omega)] at this
    rw [flat_len]; omega
  show (((nums.map enc4).flatten).drop (clipAt _ _)).take (clipAt _ _ - clipAt _ _) = _
  rw [e1, e2, show 4 * i + 4 - 4 * i = 4 by omega]
  have e3 : nums = nums.take i ++ nums[i] :: nums.drop (i + 1) := by
    rw [← List.drop_eq_getElem_cons hi, List.take_append_drop]
  have e4 : (nums.map enc4).flatten = ((nums.take i).map enc4).flatten ++ (enc4 nums[i] ++ ((nums.drop (i + 1)).map enc4).flatten) := by
    conv => lhs; rw [e3]
    rw [List.map_append, List.map_cons, List.flatten_append, List.flatten_cons]
  have e5 : (((nums.take i).map enc4).flatten).length = 4 * i := by rw [flat_len, List.length_take]; omega
  rw [e4, List.drop_left' e5, List.take_left' (enc4_len _)]
theorem take_snoc {nums : List Int} {i : Nat} (hi : i < nums.length) : nums.take (i + 1) = nums.take i ++ [nums[i]] := by rw [List.take_add_one, List.getElem?_eq_getElem hi]; rfl
theorem word_snoc (ks : List Int) (k : Int) : word (ks ++ [k]) = word ks * 256 + k := by
  unfold word
  rw [List.foldl_append]; rfl
theorem pow_room {n : Nat} (h : n < 4) : (256 : Int) ^ n ≤ 16777216 := by
  have : n = 0 ∨ n = 1 ∨ n = 2 ∨ n = 3 := by omega
  rcases this with rfl | rfl | rfl | rfl <;> decide
local macro_rules | `(tactic| walk_at "call builtin:len") => `(tactic| (k_here; (with_reducible show wpAny _ _ (call (Value.builtin "len") [Value.bytes _ _]) _ _ _); refine hold ?_))
local macro_rules | `(tactic| walk_at "call builtin:len") => `(tactic| (k_here; (with_reducible show wpAny _ _ (call (Value.builtin "len") [Value.bytes _ _]) _ _ _); (refine len_flat (by assumption) (by assumption) ?_)))
local macro_rules | `(tactic| walk_at "call builtin:len") => `(tactic| (k_here; (with_reducible show wpAny _ _ (call (Value.builtin "len") [Value.ref _]) _ _ _); k_dflt (refine' kst_len ?N ?m ?e ?f ?_; (case N => k_asm); (case m => k_mem); (case e => assumption); (case f => omega))))
local macro_rules | `(tactic| walk_at "subscriptTail") => `(tactic| (k_here; (with_reducible show wpAny _ _ (subscriptTail _ _ (Value.bytes _ _) (Value.ref _)) _ _ _); (with_reducible rename Fr _ _ _ _ => F'); (with_reducible rename News _ _ _ _ => N'); (refine KBc.slice_K (s := ⟨_, _, _, _, _⟩) F' N' (by assumption) (by constructor) (by constructor) (by rw [flat_len]; omega) ?_); intro h9 t9 k9 F9 N9 C9))
local macro_rules | `(tactic| walk_at "exec For Name Subscript cons nil") => `(tactic| (k_here; (rename Fr _ _ _ _ => lF'); (with_unfolding_all refine' For_invVF lF' ?k1 ?k2 ?_; (case k1 => exact rfl); (case k2 => exact rfl); k_whole)))
local macro_rules | `(tactic| walk_at "pyIter ref") => `(tactic| refine hold ?_)
local macro_rules | `(tactic| walk_at "pyIter bytes") => `(tactic| refine hold ?_)
local macro_rules | `(tactic| walk_at "call type:range") => `(tactic| (k_here; (with_reducible rename Fr _ _ _ _ => F'); (with_reducible rename News _ _ _ _ => N'); (refine range3_rows F' N' (by decide) ?_ (.inl (PyProof.noPylong_small (by omega)))); intro h9 tk9 t9 u9 v9 i9 F9 N9 k9))

set_option maxRecDepth 100000 in
set_option maxHeartbeats 8000000 in
theorem right_ok (w : World) (d : Addr) (o : Obj) (kvs : List (Int × Value)) (c : List (Int × Int)) (own : List (Addr × Obj)) (hdo : o.IsDictOf (PySem.intKind PySem.Challenge.rw_xm0702_01.row.prog w) kvs) (hf : PyProof.V.FlatPairs PyData.int kvs (kdfD c)) (hlo : (d == sysModules) = false)
   (hnd : (c.map (·.1)).Nodup) (hlen : c.length ≤ 16) (hb : ∀ p ∈ c, 0 ≤ p.1 ∧ p.1 < 4294967296 ∧ 0 ≤ p.2 ∧ p.2 < 4294967296) :
   Ret 4 w 73 [.ref d] ((d, o) :: own) (fun r news' => news' = (d, o) :: own ∧ r = .bool true) := by
  have hcount := same_count hnd fun p h => (hb p h).2.2.1
  w_top off
  unfold Ret
  intro mean mg mb dp un gd cn cs aF ccd cl outer A₀ base h₀ L m s Q E B F X N T hk hd hu hret
  refine wpAny_call ?_
  k_dflt (walk_at "mine enter"; intro g' L' h' FG' F' N' B' X' T'; (try dsimp only); (try k_fold))
  k_steps
  rename_i _ _ ns t pn on _ _ _ _ l us nn ms pm om im xm T _ lT D _ lD _ _ _ _ F1 N1
  obtain ⟨nums, hB, hnl, hdue, hnr⟩ := plain_law pn on pm om hnd hb hlen
  rw [hdue] at im
  generalize outB (rowsOf (fun k => kdfLook c k 0) ns) = Bt at *
  unfold Hold
  refine len_flat hB hnl ?_
  k_steps
  rename_i h2 tk2 t2 u2 v2 rg F2 N2 k2
  clear k2
  unfold Hold
  with_unfolding_all refine' loop4 (σ := TSt) (n := nums.length) (fun c => [(T, listOf c.vs.toArray c.n)]) ((l, listOf us.toArray nn) :: (d, o) :: own) (fun _ => []) [Str.ofString "number", Str.ofString "octet"] (fun i c => IntsAre c.vs (nums.take i)) (T :: l :: d :: own.map (·.1)) ⟨[], 0⟩ (by rfl) rfl (by omega) rg F2 N2 ?hn ?ha ?hk ?hp ?turn ?done
  case hn => exact fun p hp => List.mem_cons_of_mem _ hp
  case ha => intro c; rfl
  case hk => exact fun _ h => (nomatch h)
  case hp => exact .nil
  case turn =>
    intro q tl i ti u3 h3 tk3 ownL hi hsep hoff hI F3 N3
    obtain ⟨vs, n⟩ := q
    replace F3 : Fr g' L' h3 _ := F3
    dsimp only at hI
    have hoR : OwnOff (own ++ (tl ++ ownL)) [T] := off_app (fun p hp b hb => by rw [List.mem_singleton.mp hb]; exact ne_lt (kst_ltOf lT.2.2 p hp)) fun p hp b hb => hoff p hp b (by rw [List.mem_singleton.mp hb]; exact List.mem_cons_self ..)
    generalize hR2 : own ++ (tl ++ ownL) = R2 at hoR
    replace N3 : News g' L' h3 ((T, listOf vs.toArray n) :: (l, listOf us.toArray nn) :: (d, o) :: R2) := by rw [← hR2]; exact N3
    (try k_fold)
    k_steps
    rename_i h4 t4 k4 F4 N4 C4
    unfold Hold
    rw [cut4 hi] at C4
    with_unfolding_all refine' KStb.kst_bytes (σ := Int × Tok) (fun _ => (T, listOf vs.toArray n) :: (l, listOf us.toArray nn) :: (d, o) :: R2) (fun c => [(Str.ofString "number", .int c.1 c.2)]) (fun _ => True) [] (fun pre c => c.1 = word pre ∧ 0 ≤ c.1 ∧ c.1 < 256 ^ pre.length) (0, ?tz) C4 (enc4_len _) ?hh F4 N4 trivial ?kk ?kp ?turn2 ?done2
    case kk => (with_unfolding_all exact List.forall_mem_cons.mpr ⟨by rfl, fun _ h => (nomatch h)⟩)
    case hh => rfl
    case kp => exact ⟨rfl, Int.le_refl _, (by decide : (0 : Int) < 256 ^ 0)⟩
    case turn2 =>
      intro q pre post k tk u5 h5 tk5 own5 hks hlt hk0 hk1 hoff5 _ hP F5 N5
      obtain ⟨z, tz⟩ := q
      obtain ⟨p1, p2, p3⟩ := hP
      replace F5 : Fr g' L' h5 _ := F5
      replace N5 : News g' L' h5 ((T, listOf vs.toArray n) :: (l, listOf us.toArray nn) :: (d, o) :: (R2 ++ own5)) := N5
      dsimp only at p1 p2 p3
      have hroom := pow_room hlt
      have hz : z < 16777216 := by omega
      (try k_fold)
      k_steps
      rename_i h6 F6 N6
      refine' kst_end (z * 256 + k, ?t6) F6 N6 ?hn6 ?ho6 ?ha6 trivial ?hk6 ?hr6 ?hp6
      case hk6 => (with_unfolding_all exact List.forall_mem_cons.mpr ⟨by rfl, fun _ h => (nomatch h)⟩)
      case hn6 =>
        intro p hp
        simp only [List.mem_cons, List.mem_append] at hp ⊢
        rcases hp with h | h | h | h
        · exact .inl h
        · exact .inr (.inl h)
        · exact .inr (.inr (.inl h))
        · exact .inr (.inr (.inr (.inl h)))
      case ho6 => exact fun p hp => .tail _ (.tail _ (.tail _ (List.mem_append_right _ hp)))
      case ha6 => rfl
      case hr6 =>
        intro y e1 e2 e3
        have e2' := e2 _ (List.mem_cons_self ..)
        dsimp only at e2'
        simp [e1, e2', kstB]
      case hp6 =>
        refine ⟨by rw [word_snoc, ← p1], by dsimp only; omega, ?_⟩
        dsimp only
        rw [List.length_append, List.length_singleton, Int.pow_succ]
        omega
    case done2 =>
      intro q u5 h5 tk5 hlen5 _ hP F5 N5
      obtain ⟨z, tz⟩ := q
      obtain ⟨p1, _, _⟩ := hP
      dsimp only at p1
      rw [word_enc4 (hnr _ (List.getElem_mem hi)).1 (hnr _ (List.getElem_mem hi)).2] at p1
      replace F5 : Fr g' L' h5 _ := F5
      replace N5 : News g' L' h5 ((T, listOf vs.toArray n) :: (l, listOf us.toArray nn) :: (d, o) :: R2) := N5
      (try k_fold)
      k_steps
      rename_i h6 F6 N6
      simp only [List.push_toArray] at N6
      refine' kd_end (tl := tl) ⟨vs ++ [.int z tz], n + 1⟩ [] hsep F6 N6 ?hn6 ?ho6 ?ha6 ?hb6 ?hw6 ?hk6 ?hr6 trivial ?hp6
      case hk6 => exact fun _ h => (nomatch h)
      case hn6 =>
        intro p hp
        rw [← hR2]
        simp only [List.nil_append, List.mem_cons, List.mem_append, List.not_mem_nil, or_false] at hp ⊢
        rcases hp with h | (h | h | h) | h
        · exact .inl h
        · exact .inr (.inl h)
        · exact .inr (.inr (.inl h))
        · exact .inr (.inr (.inr (.inl h)))
        · exact .inr (.inr (.inr (.inr (.inl h))))
      case ho6 =>
        intro p hp
        rw [← hR2]
        simp only [List.mem_cons, List.mem_append]
        exact .inr (.inr (.inr (.inr (.inr hp))))
      case ha6 => rfl
      case hb6 => exact fun _ h => (nomatch h)
      case hw6 => exact fun _ h => (nomatch h)
      case hr6 =>
        intro y e1 e2 e3
        simp only [List.contains_cons, List.contains_nil, Bool.or_false, Bool.or_eq_false_iff, beq_eq_false_iff_ne, ne_eq] at e3
        simp [e1, e3, kstB]
      case hp6 =>
        dsimp only
        have e9 : nums.take (i + 1) = nums.take i ++ [z] := by rw [p1]; exact take_snoc hi
        rw [e9]
        exact ints_snoc hI
  case done =>
    intro q tl u3 h3 tk3 hoff hI F3 N3
    obtain ⟨vs, n⟩ := q
    replace F3 : Fr g' L' h3 _ := F3
    replace N3 : News g' L' h3 ((T, listOf vs.toArray n) :: (l, listOf us.toArray nn) :: (d, o) :: (own ++ tl)) := N3
    dsimp only at hI
    rw [List.take_length] at hI
    have hul := im.length
    (try k_fold)
    k_steps
    · refine hret _ _ _ _ (by k_asm) (news_sub (l' := (d, o) :: own) (by k_asm) ?_) ⟨rfl, rfl⟩
      intro p hp
      rcases List.mem_cons.mp hp with h | h
      · rw [h]; exact .tail _ (.tail _ (.head _))
      · exact .tail _ (.tail _ (.tail _ (List.mem_append_left _ h)))
    · exact absurd rfl (by assumption)
end Mine

namespace Mine
open PySem PySem.W PyProof.Rows
-- lines without use: the walk keeps its table of lines for as long as their number is the same
local macro_rules | `(tactic| walk_at "mine line 0") => `(tactic| fail)
local macro_rules | `(tactic| walk_at "mine line 1") => `(tactic| fail)
local macro_rules | `(tactic| walk_at "mine line 2") => `(tactic| fail)
local macro_rules | `(tactic| walk_at "mine line 3") => `(tactic| fail)
local macro_rules | `(tactic| walk_at "mine line 4") => `(tactic| fail)
local macro_rules | `(tactic| walk_at "mine line 5") => `(tactic| fail)
local macro_rules | `(tactic| walk_at "mine line 6") => `(tactic| fail)
local macro_rules | `(tactic| walk_at "mine line 7") => `(tactic| fail)
local macro_rules | `(tactic| walk_at "mine line 8") => `(tactic| fail)
local macro_rules | `(tactic| walk_at "mine line 9") => `(tactic| fail)
local macro_rules | `(tactic| walk_at "mine line 10") => `(tactic| fail)
local macro_rules | `(tactic| walk_at "mine line 11") => `(tactic| fail)
local macro_rules | `(tactic| walk_at "mine line 12") => `(tactic| fail)
local macro_rules | `(tactic| walk_at "mine line 13") => `(tactic| fail)
local macro_rules | `(tactic| walk_at "mine line 14") => `(tactic| fail)
local macro_rules | `(tactic| walk_at "mine line 15") => `(tactic| fail)
local macro_rules | `(tactic| walk_at "mine line 16") => `(tactic| fail)
local macro_rules | `(tactic| walk_at "mine line 17") => `(tactic| fail)
local macro_rules | `(tactic| walk_at "mine line 18") => `(tactic| fail)
local macro_rules | `(tactic| walk_at "mine line 19") => `(tactic| fail)
local macro_rules | `(tactic| walk_at "mine line 20") => `(tactic| fail)
local macro_rules | `(tactic| walk_at "mine line 21") => `(tactic| fail)
local macro_rules | `(tactic| walk_at "mine line 22") => `(tactic| fail)
local macro_rules | `(tactic| walk_at "mine line 23") => `(tactic| fail)
local macro_rules | `(tactic| walk_at "mine line 24") => `(tactic| fail)
local macro_rules | `(tactic| walk_at "mine line 25") => `(tactic| fail)
local macro_rules | `(tactic| walk_at "mine line 26") => `(tactic| fail)
local macro_rules | `(tactic| walk_at "mine line 27") => `(tactic| fail)
local macro_rules | `(tactic| walk_at "mine line 28") => `(tactic| fail)
local macro_rules | `(tactic| walk_at "mine line 29") => `(tactic| fail)
local macro_rules | `(tactic| walk_at "mine line 30") => `(tactic| fail)
local macro_rules | `(tactic| walk_at "mine line 31") => `(tactic| fail)
local macro_rules | `(tactic| walk_at "mine line 32") => `(tactic| fail)
local macro_rules | `(tactic| walk_at "mine line 33") => `(tactic| fail)
local macro_rules | `(tactic| walk_at "mine line 34") => `(tactic| fail)
local macro_rules | `(tactic| walk_at "mine line 35") => `(tactic| fail)
local macro_rules | `(tactic| walk_at "mine line 36") => `(tactic| fail)
local macro_rules | `(tactic| walk_at "mine line 37") => `(tactic| fail)
local macro_rules | `(tactic| walk_at "mine line 38") => `(tactic| fail)
local macro_rules | `(tactic| walk_at "mine line 39") => `(tactic| fail)
local macro_rules | `(tactic| walk_at "mine line 40") => `(tactic| fail)
local macro_rules | `(tactic| walk_at "mine line 41") => `(tactic| fail)
local macro_rules | `(tactic| walk_at "mine line 42") => `(tactic| fail)
local macro_rules | `(tactic| walk_at "mine line 43") => `(tactic| fail)
local macro_rules | `(tactic| walk_at "mine line 44") => `(tactic| fail)
local macro_rules | `(tactic| walk_at "mine line 45") => `(tactic| fail)
local macro_rules | `(tactic| walk_at "mine line 46") => `(tactic| fail)
local macro_rules | `(tactic| walk_at "mine line 47") => `(tactic| fail)
local macro_rules | `(tactic| walk_at "mine line 48") => `(tactic| fail)
local macro_rules | `(tactic| walk_at "mine line 49") => `(tactic| fail)
local macro_rules | `(tactic| walk_at "mine line 50") => `(tactic| fail)
local macro_rules | `(tactic| walk_at "mine line 51") => `(tactic| fail)
local macro_rules | `(tactic| walk_at "execs cons") => `(tactic| ((with_reducible refine wpAny_execs_cons ?_); try dsimp only))
theorem lit_c : (∀ p ∈ [((6 : Int), (10 : Int)), (9, 3), (5, 9)], 0 ≤ p.1 ∧ p.1 < 4294967296 ∧ 0 ≤ p.2 ∧ p.2 < 4294967296) ∧ ([((6 : Int), (10 : Int)), (9, 3), (5, 9)].map (·.1)).Nodup := by decide
local macro_rules | `(tactic| walk_at "call ref") => `(tactic| (
  k_dflt (refine' Ret.use (right_ok _ _ _ _ [(6, 10), (9, 3), (5, 9)] _ ?a1 ?a2 ?a3 lit_c.2 (by decide) lit_c.1) ?k1 ?k2 ?k3 ?k4 ?k5 ?kK ?kd ?ku ?_; (case k1 => k_asm); (case k2 => k_asm); (case k3 => k_asm); (case k4 => k_asm); (case k5 => k_asm); (case kK => first | exact rfl | assumption); (case kd => ktr_room); (case ku => ktr_units); (case a1 => assumption); (case a2 => with_unfolding_all assumption); (case a3 => assumption));
  intro r9 n9 h9 tk9 F9 N9 P9; obtain ⟨f9, e9⟩ := P9; subst e9; subst f9; (try dsimp only); (try k_fold)))
local macro_rules | `(tactic| walk_at "call ref") => `(tactic| (
  k_dflt (refine' Ret.use (right_ok _ _ _ _ _ _ ?a1 ?a2 ?a3 ?a4 ?a5 ?a6) ?k1 ?k2 ?k3 ?k4 ?k5 ?kK ?kd ?ku ?_; (case k1 => k_asm); (case k2 => k_asm); (case k3 => k_asm); (case k4 => k_asm); (case k5 => k_asm); (case kK => first | exact rfl | assumption); (case kd => ktr_room); (case ku => ktr_units); (case a1 => assumption); (case a2 => assumption); (case a3 => assumption); (case a4 => assumption); (case a5 => assumption); (case a6 => assumption));
  intro r9 n9 h9 tk9 F9 N9 P9; obtain ⟨f9, e9⟩ := P9; subst e9; subst f9; (try dsimp only); (try k_fold)))
local macro_rules | `(tactic| walk_at "call ref") => `(tactic| (
  k_dflt (refine' Ret.use (codes_ok _ _ _ _ _ _ _ _ ?h0 ?h1 ?h2 ?h3) ?k1 ?k2 ?k3 ?k4 ?k5 ?kK ?kd ?ku ?_; (case k1 => k_asm); (case k2 => k_asm); (case k3 => k_asm); (case k4 => first | k_asm | exact news_swap (by k_asm)); (case k5 => k_asm); (case kK => first | exact rfl | assumption); (case kd => ktr_room); (case ku => ktr_units); (case h0 => first | assumption | exact Int.le_refl _ | omega); (case h1 => first | assumption | exact (take_b _).1); (case h2 => first | assumption | exact (take_b _).2); (case h3 => first | exact off_cons (ne_lt (by assumption)) (fun _ h => (nomatch h)) | exact off_cons (Ne.symm (by assumption)) (off_cons (ne_lt (by assumption)) (fun _ h => (nomatch h)))));
  intro r9 n9 h9 tk9 F9 N9 P9; obtain ⟨d9, o9, kvs9, c9, a9, b9, ta9, tb9, n9', e9, g1, g2, g3, hd9, hf9, hn9, hb9, hl9, ho9, hs9, hlo9, f9⟩ := P9; subst e9; subst f9; (try dsimp only); (try k_fold)))
set_option maxRecDepth 100000 in
set_option maxHeartbeats 8000000 in
theorem law_ok : PySem.Challenge.rw_xm0702_01.Holds := hd (by
  k_go0
  (all_goals try k_fold)
  k_steps)
end Mine

set_option maxRecDepth 100000 in
set_option maxHeartbeats 8000000 in
theorem PySem.Challenge.cw_xm0702_01_holds : PySem.Challenge.rw_xm0702_01.Holds := by
  exact Mine.law_ok
