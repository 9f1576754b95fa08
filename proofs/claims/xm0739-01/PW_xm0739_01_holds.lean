import PyProof.Rows.All
import Wide.All
import OpenK.AllK
import Wide.FinOn
import PySem.Challenge.RW_xm0739_01
open PySem PySem.W PyProof.Rows
set_option Elab.async false
set_option maxRecDepth 100000
set_option maxHeartbeats 8000000
namespace Mine
open_top hd for PySem.Challenge.rw_xm0739_01
section
abbrev Led := List (Addr × Obj)
def Ct (l : OpenLaw) (K : Params → Frag) (k : Nat) (f : Addr) (news : Led) (vs : List Value) (Out : Value → Led → Prop) : Prop :=
  ∀ (w : World) (mean : ExcName → Option Value) (mg mb : Str → Option Value) (dp un : Nat) (gd : Option (List Code)) (cn : Str) (cs : Scope) (a : Addr) (ccd : Value) (cl : List (Str × Addr)) (outer : List Env) (A₀ : Around) (base h₀ : Heap) (L : Addr) (m : Str → Option Value) (s : Shared) (Q E : Value → Shared → Prop),
    Below A₀ base outer h₀ → Fr h₀ L s.heap m → (K w.params).In h₀ → News h₀ L s.heap news → Top hd.view_39 (looseW hd.view_39 []) mean mg mb h₀ → cs.kind = .function → dp + k < recursionLimit → un + 100 * k < cLine →
    (∀ r news' h' tk', Fr h₀ L h' m → News h₀ L h' news' → Out r news' → Q r { s with heap := h', toks := tk' }) →
    wpAny (model l.row.prog w) (ktrTop dp un gd cn cs L a ccd cl outer) (call (.ref f) vs) Q E s

theorem Ct.use {l : OpenLaw} {K : Params → Frag} {k : Nat} {f : Addr} {news : Led} {vs : List Value} {Out : Value → Led → Prop} (C : Ct l K k f news vs Out)
    {w : World} {mean : ExcName → Option Value} {mg mb : Str → Option Value} {dp un : Nat} {gd : Option (List Code)} {cn : Str} {cs : Scope} {a : Addr} {ccd : Value} {cl : List (Str × Addr)} {outer : List Env} {A₀ : Around} {base h₀ : Heap} {L : Addr} {m : Str → Option Value} {s : Shared} {Q E : Value → Shared → Prop}
    (N : News h₀ L s.heap news)
    (ret : ∀ r news' h' tk', Fr h₀ L h' m → News h₀ L h' news' → Out r news' → Q r { s with heap := h', toks := tk' })
    (B : Below A₀ base outer h₀ := by k_asm) (F : Fr h₀ L s.heap m := by k_asm) (X : (K w.params).In h₀ := by k_asm) (T : Top hd.view_39 (looseW hd.view_39 []) mean mg mb h₀ := by k_asm) (hk : cs.kind = .function := by exact rfl) (hd : dp + k < recursionLimit := by ktr_room) (hu : un + 100 * k < cLine := by ktr_units) :
    wpAny (model l.row.prog w) (ktrTop dp un gd cn cs L a ccd cl outer) (call (.ref f) vs) Q E s := C _ _ _ _ _ _ _ _ _ _ _ _ _ _ _ _ _ _ _ _ _ B F X N T hk hd hu ret
section
variable {h₀ h : Heap} {L : Addr} {x1 x2 x3 x4 x5 y : Addr × Obj} {r : Led}
theorem sw1 (N : News h₀ L h (x1 :: y :: r)) : News h₀ L h (y :: x1 :: r) := fun p hp => N p (by simp only [List.mem_cons] at hp ⊢; grind)
theorem sw2 (N : News h₀ L h (x1 :: x2 :: y :: r)) : News h₀ L h (y :: x1 :: x2 :: r) := fun p hp => N p (by simp only [List.mem_cons] at hp ⊢; grind)
theorem sw3 (N : News h₀ L h (x1 :: x2 :: x3 :: y :: r)) : News h₀ L h (y :: x1 :: x2 :: x3 :: r) := fun p hp => N p (by simp only [List.mem_cons] at hp ⊢; grind)
theorem sw4 (N : News h₀ L h (x1 :: x2 :: x3 :: x4 :: y :: r)) : News h₀ L h (y :: x1 :: x2 :: x3 :: x4 :: r) := fun p hp => N p (by simp only [List.mem_cons] at hp ⊢; grind)
theorem dr1 {x1 : Addr × Obj} (N : News h₀ L h (y :: x1 :: r)) : News h₀ L h (y :: r) := fun p hp => N p (by simp only [List.mem_cons] at hp ⊢; rcases hp with hp | hp <;> simp only [hp, true_or, or_true])
theorem dr2 {x1 x2 : Addr × Obj} (N : News h₀ L h (y :: x1 :: x2 :: r)) : News h₀ L h (y :: r) := fun p hp => N p (by simp only [List.mem_cons] at hp ⊢; rcases hp with hp | hp <;> simp only [hp, true_or, or_true])
theorem dr3 {x1 x2 x3 : Addr × Obj} (N : News h₀ L h (y :: x1 :: x2 :: x3 :: r)) : News h₀ L h (y :: r) := fun p hp => N p (by simp only [List.mem_cons] at hp ⊢; rcases hp with hp | hp <;> simp only [hp, true_or, or_true])
theorem dr4 {x1 x2 x3 x4 : Addr × Obj} (N : News h₀ L h (y :: x1 :: x2 :: x3 :: x4 :: r)) : News h₀ L h (y :: r) := fun p hp => N p (by simp only [List.mem_cons] at hp ⊢; rcases hp with hp | hp <;> simp only [hp, true_or, or_true])
theorem dr5 {x1 x2 x3 x4 x5 : Addr × Obj} (N : News h₀ L h (y :: x1 :: x2 :: x3 :: x4 :: x5 :: r)) : News h₀ L h (y :: r) := fun p hp => N p (by simp only [List.mem_cons] at hp ⊢; rcases hp with hp | hp <;> simp only [hp, true_or, or_true])
theorem dr6 {x1 x2 x3 x4 x5 x6 : Addr × Obj} (N : News h₀ L h (y :: x1 :: x2 :: x3 :: x4 :: x5 :: x6 :: r)) : News h₀ L h (y :: r) := fun p hp => N p (by simp only [List.mem_cons] at hp ⊢; rcases hp with hp | hp <;> simp only [hp, true_or, or_true])
theorem dr7 {x1 x2 x3 x4 x5 x6 x7 : Addr × Obj} (N : News h₀ L h (y :: x1 :: x2 :: x3 :: x4 :: x5 :: x6 :: x7 :: r)) : News h₀ L h (y :: r) := fun p hp => N p (by simp only [List.mem_cons] at hp ⊢; rcases hp with hp | hp <;> simp only [hp, true_or, or_true])
theorem dr8 {x1 x2 x3 x4 x5 x6 x7 x8 : Addr × Obj} (N : News h₀ L h (y :: x1 :: x2 :: x3 :: x4 :: x5 :: x6 :: x7 :: x8 :: r)) : News h₀ L h (y :: r) := fun p hp => N p (by simp only [List.mem_cons] at hp ⊢; rcases hp with hp | hp <;> simp only [hp, true_or, or_true])
theorem df1 {x1 : Addr × Obj} (N : News h₀ L h (x1 :: r)) : News h₀ L h r := fun p hp => N p (by simp only [List.mem_cons, hp, or_true])
theorem df2 {x1 x2 : Addr × Obj} (N : News h₀ L h (x1 :: x2 :: r)) : News h₀ L h r := fun p hp => N p (by simp only [List.mem_cons, hp, or_true])
theorem df3 {x1 x2 x3 : Addr × Obj} (N : News h₀ L h (x1 :: x2 :: x3 :: r)) : News h₀ L h r := fun p hp => N p (by simp only [List.mem_cons, hp, or_true])
theorem df4 {x1 x2 x3 x4 : Addr × Obj} (N : News h₀ L h (x1 :: x2 :: x3 :: x4 :: r)) : News h₀ L h r := fun p hp => N p (by simp only [List.mem_cons, hp, or_true])
theorem df5 {x1 x2 x3 x4 x5 : Addr × Obj} (N : News h₀ L h (x1 :: x2 :: x3 :: x4 :: x5 :: r)) : News h₀ L h r := fun p hp => N p (by simp only [List.mem_cons, hp, or_true])
theorem df6 {x1 x2 x3 x4 x5 x6 : Addr × Obj} (N : News h₀ L h (x1 :: x2 :: x3 :: x4 :: x5 :: x6 :: r)) : News h₀ L h r := fun p hp => N p (by simp only [List.mem_cons, hp, or_true])
theorem df7 {x1 x2 x3 x4 x5 x6 x7 : Addr × Obj} (N : News h₀ L h (x1 :: x2 :: x3 :: x4 :: x5 :: x6 :: x7 :: r)) : News h₀ L h r := fun p hp => N p (by simp only [List.mem_cons, hp, or_true])
theorem df8 {x1 x2 x3 x4 x5 x6 x7 x8 : Addr × Obj} (N : News h₀ L h (x1 :: x2 :: x3 :: x4 :: x5 :: x6 :: x7 :: x8 :: r)) : News h₀ L h r := fun p hp => N p (by simp only [List.mem_cons, hp, or_true])
theorem sw5 (N : News h₀ L h (x1 :: x2 :: x3 :: x4 :: x5 :: y :: r)) : News h₀ L h (y :: x1 :: x2 :: x3 :: x4 :: x5 :: r) := fun p hp => N p (by simp only [List.mem_cons] at hp ⊢; grind)
end
section
variable {prog : Program} {w : World} {A : Around} {E : Value → Shared → Prop} {s : Shared} {h₀ : Heap} {L D : Addr} {m : Str → Option Value} {news news' : Led} {its its' : Array Value} {n : Nat} {k : Int} {v : Value} {t u : Tok}
theorem at_sub {value slice : PySem.Expr} {Q : Value → Shared → Prop} (N : News h₀ L s.heap news) (hm : (D, listOf its n) ∈ news) (h0 : 0 ≤ k) (hfit : k < 2 ^ 63) (hx : its[k.toNat]? = some v) (h : Q v s)
    (hs : subscripted slice false (.ref D) (.int k u) = operate [.ref D, .int k u] (getItem (.ref D) (.int k u)) := by with_unfolding_all rfl) :
    wpAny (model prog w) A (subscriptTail value slice (.ref D) (.int k u)) Q E s :=
  have hl : s.heap.IsList D its := PySem.IsL.isList (n := n) (N _ hm).1
  tail_any hl.typeIs slot_list_getitem.lookup (wpAny_getItem_list hl h0 hfit hx h) hs
theorem at_set {Q : Unit → Shared → Prop} (F : Fr h₀ L s.heap m) (N : News h₀ L s.heap news) (U : Upd D (listOf its n) (listOf its' n) news news') (h0 : 0 ≤ k) (h1 : k < its.size) (hfit : k < 2 ^ 63) (he : its.setIfInBounds k.toNat v = its')
    (h : ∀ h', Fr h₀ L h' m → News h₀ L h' news' → Q () { s with heap := h' }) :
    wpAny (model prog w) A (setItem (.ref D) (.int k t) v) Q E s := by
  obtain ⟨pre, post, rfl, rfl, a, b⟩ := U.split
  have z := N (D, listOf its n) (List.mem_append.mpr (.inr (.head _)))
  have hz : its'.size = its.size := by rw [← he]; simp
  exact ki_setAt z.1 h0 hfit h1 (h _ (F.change (Heap.SameBut.update ..) z.2.1 z.2.2) (ki_turn _ N a b he (by rw [hz]; simp)))
end
theorem mulOk_fm (x y : Int) : IntMulOk x (y.fmod 2147483647) := by
  refine PySem.IntMulOk.of_right (PySem.intBits_le_64 ?_ ?_)
  · have := Int.fmod_nonneg_of_pos y (b := 2147483647) (by decide); omega
  · have := Int.fmod_lt_of_pos y (b := 2147483647) (by decide); omega
local macro_rules | `(tactic| k_all) => `(tactic| with_reducible assumption)
local macro_rules | `(tactic| walk_at "subscriptTail") => `(tactic| (k_here; (with_reducible show wpAny _ _ (subscriptTail _ _ (Value.ref _) (Value.int _ _)) _ _ _); k_dflt (refine' at_sub ?k1 ?k2 ?k3 ?k4 ?k5 ?_ ?k6; (case k1 => k_asm); (case k2 => k_mem); (case k3 => decide); (case k4 => decide); (case k5 => rfl); (case k6 => with_unfolding_all rfl); k_whole)))
local macro_rules | `(tactic| walk_at "setItem ref int") => `(tactic| (k_here; (with_reducible show wpAny _ _ (setItem (Value.ref _) (Value.int _ _) _) _ _ _); k_dflt (refine' at_set ?k1 ?k2 ?k3 ?k4 ?k5 ?k6 ?k7 ?_; (case k1 => k_asm); (case k2 => k_asm); (case k7 => rfl); (case k3 => k_upd); (case k4 => decide); (case k5 => decide); (case k6 => decide); k_whole); intro h' F' N'; (try k_sweep)))
local macro_rules | `(tactic| walk_at "binaryOp Mult int int") => `(tactic| (refine mul_int ?_ (mulOk_fm _ _)))
abbrev Src (l : Addr) (n : Nat) (a : Int) (ta : Tok) (b : Int) (tb : Tok) : Addr × Obj := (l, listOf #[.int a ta, .int b tb] n)
def SrcOk (a b : Int) : Prop := 0 ≤ a ∧ 0 ≤ b ∧ b < 2147483647
def TakeOut (l : Addr) (n : Nat) (R : Led) (top : Int) (r : Value) (nw : Led) : Prop :=
  ∃ d td a' ta' b' tb', r = .int d td ∧ 0 ≤ d ∧ d < top ∧ nw = Src l n a' ta' b' tb' :: R ∧ SrcOk a' b'
theorem take_c (l : Addr) (n : Nat) (a : Int) (ta : Tok) (b : Int) (tb : Tok) (R : Led) (top : Int) (tt : Tok) (hR : ∀ p ∈ R, p.1 ≠ l) (hs : SrcOk a b) (h0 : 0 < top) (h1 : top < 1073741824) :
    Ct PySem.Challenge.rw_xm0739_01 hd.heap_39 1 42 (Src l n a ta b tb :: R) [.ref l, .int top tt] (TakeOut l n R top) := by
  obtain ⟨ha, hb, hb'⟩ := hs
  k_fill
  unfold Ct
  intro w mean mg mb dp un gd cn cs aa ccd cl outer A₀ base h₀ L m s Q E B F X N T hk hd hu hret
  refine wpAny_call ?_
  k_dflt cell_enter
  k_steps
  · refine hret _ _ _ _ (by assumption) (by assumption) ⟨_, _, _, _, _, _, rfl, ?_, ?_, rfl, ?_, hb, hb'⟩
    · exact Int.fmod_nonneg_of_pos _ h0
    · exact Int.fmod_lt_of_pos _ h0
    · exact Int.fdiv_nonneg ha (by omega)
  · refine hret _ _ _ _ (by assumption) (by assumption) ⟨_, _, _, _, _, _, rfl, ?_, ?_, rfl, ha, ?_, ?_⟩
    · exact Int.fmod_nonneg_of_pos _ h0
    · exact Int.fmod_lt_of_pos _ h0
    · exact Int.fmod_nonneg_of_pos _ (by decide)
    · exact Int.fmod_lt_of_pos _ (by decide)
end
section
section
variable {prog : Program} {w : World} {A : Around} {E : Value → Shared → Prop} {s : Shared} {h₀ : Heap} {L D : Addr} {m : Str → Option Value} {news news' : Led} {vs : List Value} {ns : List Int} {n : Nat} {k : Int} {v : Value} {t u : Tok}
theorem len_at {Q : Value → Shared → Prop} (N : News h₀ L s.heap news) (hm : (D, listOf vs.toArray n) ∈ news) (hi : IntsAre vs ns) (h1 : (ns.length : Int) < 100000) (h : ∀ t k, Q (.int (ns.length : Int) t) { s with toks := k }) :
    wpAny (model prog w) A (call (.builtin "len") [.ref D]) Q E s := by
  have hl : s.heap.IsList D vs.toArray := PySem.IsL.isList (n := n) (N _ hm).1
  have e : vs.toArray.size = ns.length := by rw [List.size_toArray, hi.length]
  refine PyProof.Rows.len_list hl (by rw [e]; omega) ?_
  rw [e]
  exact h _ _
theorem getD_mem {ns : List Int} {d : Int} (h0 : 0 ≤ d) (h1 : d < (ns.length : Int)) : ns.getD d.toNat 0 ∈ ns := by
  have h : d.toNat < ns.length := by omega
  rw [List.getD_eq_getElem?_getD, List.getElem?_eq_getElem h]
  exact List.getElem_mem h
end
section
local macro_rules | `(tactic| walk_at "call builtin:len") => `(tactic| (k_here; (with_reducible show wpAny _ _ (call (Value.builtin "len") [Value.ref _]) _ _ _); k_dflt (refine' len_at ?k1 ?k2 ?k3 ?k4 ?_; (case k1 => k_asm); (case k2 => k_mem); (case k3 => with_reducible assumption); (case k4 => omega); k_whole); intro _ _))
local macro_rules | `(tactic| k_mem) => `(tactic| (refine List.mem_cons_of_mem _ ?_; with_reducible assumption))
local macro_rules | `(tactic| k_all) => `(tactic| with_reducible assumption)
local macro_rules | `(tactic| walk_at "call ref") => `(tactic| (k_here; (with_reducible show wpAny _ _ (call (Value.ref 42) _) _ _ _); k_dflt (refine' Ct.use (take_c _ _ _ _ _ _ _ _ _ ?hR ?hs ?h0 ?h1) ?k4 ?_; (case k4 => first | (with_reducible assumption) | (refine' sw1 ?n9; (case n9 => with_reducible assumption)) | (refine' sw2 ?n9; (case n9 => with_reducible assumption)) | (refine' sw3 ?n9; (case n9 => with_reducible assumption)) | (refine' sw4 ?n9; (case n9 => with_reducible assumption)) | (refine' sw5 ?n9; (case n9 => with_reducible assumption))); (case hs => with_reducible assumption); (case hR => k_all); (case h0 => omega); (case h1 => omega); k_whole); intro r9 nw9 h' tk9 F' N' ho9; obtain ⟨d9, td9, a9, ta9, b9, tb9, hr9, hd0, hd1, hn9, hs9⟩ := ho9; subst hr9; subst hn9; (try k_sweep); (try dsimp only); (try k_fold)))
theorem one_c (l : Addr) (n : Nat) (a : Int) (ta : Tok) (b : Int) (tb : Tok) (R : Led) (th : Addr) (vs : List Value) (ns : List Int) (nt : Nat) (hR : ∀ p ∈ R, p.1 ≠ l) (hs : SrcOk a b)
    (hth : (th, listOf vs.toArray nt) ∈ R) (hi : IntsAre vs ns) (h0 : 0 < ns.length) (h1 : ns.length < 1000) :
    Ct PySem.Challenge.rw_xm0739_01 hd.heap_39 2 49 (Src l n a ta b tb :: R) [.ref l, .ref th] (fun r nw => ∃ d td a' ta' b' tb', r = .int d td ∧ d ∈ ns ∧ nw = Src l n a' ta' b' tb' :: R ∧ SrcOk a' b') := by
  k_fill
  unfold Ct
  intro w mean mg mb dp un gd cn cs aa ccd cl outer A₀ base h₀ L m s Q E B F X N T hk hd hu hret
  refine wpAny_call ?_
  k_dflt cell_enter
  k_steps
  refine hret _ _ _ _ (by assumption) (by assumption) ⟨_, _, _, _, _, _, rfl, ?_, rfl, by assumption⟩
  exact getD_mem (by omega) (by omega)
end
end
section
def SignOk (d : Int) : Prop := 0 ≤ d ∧ d ≤ 1114111 ∧ ¬ (55296 ≤ d ∧ d < 57344)
section
local macro_rules | `(tactic| walk_at "none of these") => `(tactic| skip)
local macro_rules | `(tactic| k_all) => `(tactic| with_reducible assumption)
local macro_rules | `(tactic| walk_at "call ref") => `(tactic| (k_here; (with_reducible show wpAny _ _ (call (Value.ref 42) _) _ _ _); k_dflt (refine' Ct.use (take_c _ _ _ _ _ _ _ _ _ ?hR ?hs ?h0 ?h1) ?k4 ?_; (case k4 => first | (with_reducible assumption) | (refine' sw1 ?n9; (case n9 => with_reducible assumption)) | (refine' sw2 ?n9; (case n9 => with_reducible assumption)) | (refine' sw3 ?n9; (case n9 => with_reducible assumption)) | (refine' sw4 ?n9; (case n9 => with_reducible assumption)) | (refine' sw5 ?n9; (case n9 => with_reducible assumption))); (case hs => with_reducible assumption); (case hR => k_all); (case h0 => omega); (case h1 => omega); k_whole); intro r9 nw9 h' tk9 F' N' ho9; obtain ⟨d9, td9, a9, ta9, b9, tb9, hr9, hd0, hd1, hn9, hs9⟩ := ho9; subst hr9; subst hn9; (try k_sweep); (try dsimp only); (try k_fold)))
local macro_rules | `(tactic| walk_at "call ref") => `(tactic| (k_here; (with_reducible show wpAny _ _ (call (Value.ref 49) _) _ _ _); k_dflt (refine' Ct.use (one_c _ _ _ _ _ _ _ _ _ _ _ ?hR ?hs ?hth ?hi ?h0 ?h1) ?k4 ?_; (case k4 => first | (with_reducible assumption) | (refine' sw1 ?n9; (case n9 => with_reducible assumption)) | (refine' sw2 ?n9; (case n9 => with_reducible assumption)) | (refine' sw3 ?n9; (case n9 => with_reducible assumption)) | (refine' sw4 ?n9; (case n9 => with_reducible assumption)) | (refine' sw5 ?n9; (case n9 => with_reducible assumption))); (case hs => with_reducible assumption); (case hth => k_mem); (case hR => k_all); (case hi => first | l_ints | (repeat' (first | exact IntsAre.nil | refine' IntsAre.cons _ _ ?_))); (case h0 => first | exact Nat.le_of_ble_eq_true rfl | omega); (case h1 => first | exact Nat.le_of_ble_eq_true rfl | omega); k_whole); intro r9 nw9 h' tk9 F' N' ho9; obtain ⟨d9, td9, a9, ta9, b9, tb9, hr9, hd9, hn9, hs9⟩ := ho9; subst hr9; subst hn9; (try k_sweep); (try dsimp only); (try k_fold)))
theorem sign_c (l : Addr) (n : Nat) (a : Int) (ta : Tok) (b : Int) (tb : Tok) (R : Led) (hR : ∀ p ∈ R, p.1 ≠ l) (hs : SrcOk a b) :
    Ct PySem.Challenge.rw_xm0739_01 hd.heap_39 3 56 (Src l n a ta b tb :: R) [.ref l] (fun r nw => ∃ d td a' ta' b' tb', r = .int d td ∧ SignOk d ∧ nw = Src l n a' ta' b' tb' :: R ∧ SrcOk a' b') := by
  k_fill
  unfold Ct
  intro w mean mg mb dp un gd cn cs aa ccd cl outer A₀ base h₀ L m s Q E B F X N T hk hd hu hret
  refine wpAny_call ?_
  k_dflt cell_enter
  k_steps
  rename (_ : Int) ∈ _ => hm
  refine hret _ _ _ _ (by assumption) (dr3 (by assumption)) ⟨_, _, _, _, _, _, rfl, ?_, rfl, by assumption⟩
  simp only [List.mem_append, List.mem_cons, List.not_mem_nil, or_false] at hm
  unfold SignOk
  omega
end
end
section
abbrev tupOf (its : Array Value) (n : Nat) : Obj := { cls := .type "tuple", data := .seq its n }
section
open PyProof.Rows.LCg PyProof.Rows.LCt
variable {prog : Program} {w : World} {A : Around} {E : Value → Shared → Prop} {s : Shared} {h₀ : Heap} {L : Addr} {m : Str → Option Value} {env : Env}
def TupSrc (prog : Program) (w : World) (A : Around) (h₀ : Heap) (L : Addr) (m : Str → Option Value) (env : Env) (ct elt : Expr) (x : Str) (scope : Scope) (cl : List (Str × Addr)) (Fin : Shared → List Value → Led → Prop) (xv : Value) (s₁ : Shared) : Prop :=
  ∃ ax its n news, xv = .ref ax ∧ A.handled = none ∧ Fr h₀ L s₁.heap m ∧ News h₀ L s₁.heap news ∧ (ax, tupOf its n) ∈ news ∧ its.size ≤ sizeLine ∧
    ∀ g, CompRestT prog w A h₀ L m env ct elt x scope cl { s₁ with heap := g } (fun nw => (ax, tupOf its n) ∈ nw) (fun i v => its[i]? = some v) (Fin { s₁ with heap := g }) its.size 0 [] news
theorem TupSrc.intro {ct elt : Expr} {x : Str} {scope : Scope} {cl : List (Str × Addr)} {Fin : Shared → List Value → Led → Prop} {ax : Addr} {its : Array Value} {n : Nat} {news : Led} {s₁ : Shared} (hh : A.handled = none) (F : Fr h₀ L s₁.heap m) (N : News h₀ L s₁.heap news) (hm : (ax, tupOf its n) ∈ news) (k : Nat) (hk : its.size = k) (hsz : k ≤ 1000)
    (h : ∀ g, CompRestT prog w A h₀ L m env ct elt x scope cl { s₁ with heap := g } (fun nw => (ax, tupOf its n) ∈ nw) (fun i v => its[i]? = some v) (Fin { s₁ with heap := g }) k 0 [] news) :
    TupSrc prog w A h₀ L m env ct elt x scope cl Fin (.ref ax) s₁ := by
  subst hk
  exact ⟨ax, its, n, news, rfl, hh, F, N, hm, by rw [sizeLine_eq]; omega, h⟩
theorem compEnd_same {I C D : Addr} {s₁ : Shared} {oI oC oD : Obj} {S : Led → Prop} {rest : Value → Led → Prop} {y : Value} {h' : Heap} {tk : Nat} {news' : Led}
    (F : Fr h₀ L h' m) (N : News h₀ L h' ((I, oI) :: (C, oC) :: (D, oD) :: news')) (off : Off3 I C D news') (hS : S news') (r : rest y news') :
    CompEnd h₀ L m s₁ I oI C oC D oD S rest y { s₁ with heap := h', toks := tk } := ⟨_, _, _, rfl, F, N, off, hS, r⟩
theorem comp_tup {ct elt iter : Expr} {x : Str} {px : Pos} {scope : Scope} {cl : List (Str × Addr)} {pos : Pos} {Q : Value → Shared → Prop} (_F₀ : Fr h₀ L s.heap m)
    (hclos : closureFor scope env = pure cl) (hcell : ∀ y ∈ scope.names, y.2 ≠ .cell) (hkind : scope.kind = .function)
    (hnames : ∀ y ∈ scope.names, y.2 = .local → scope.names.lookup y.1 = some .local) (hx : scope.names.lookup x = some .local)
    (h : wpAny (model prog w) A (eval iter env) (TupSrc prog w A h₀ L m env ct elt x scope cl (fun s₂ => FinE h₀ L m s₂ Q)) E s)
    (hs : ∀ x, foldedSetIterable iter env x = pure x := by intro _; rfl) :
    wpAny (model prog w) A (eval (.ListComp elt [⟨.Name x px, iter, [ct], 0⟩] scope pos) env) Q E s := by
  rw [eval_ListComp]
  refine wpAny_comprehension_free (use := none) rfl hs hclos hkind hnames (wpAny_mono h (fun xv s₁ h₁ => ?_) fun _ _ e => e)
  obtain ⟨ax, its, n, news, rfl, hh, F, N, hm, hsz, R⟩ := h₁
  have hl : s₁.heap.IsTuple ax its := ⟨_, N.get hm, rfl, _, rfl⟩
  have hlt : ax < s₁.heap.objs.size := Heap.lt_size (N.get hm)
  refine wpAny_pyIter_tuple hl ?_
  have up : ∀ b o, s₁.heap.get? b = some o → (s₁.heap.push { cls := .type "tuple_iterator", data := .fields #[.ref ax, .int 0 0] }).get? b = some o := fun b o e => Heap.get?_push_of_some _ e
  refine block_T (Walks.tuple hh s₁.heap.objs.size ax (Nat.ne_of_lt hlt) its) hsz (fun i h st => by obtain ⟨o, e, _⟩ := st.1; exact ⟨o, e⟩) (S := fun nw => (ax, tupOf its n) ∈ nw) ?_ hcell hkind hx ⟨⟨_, Heap.get?_push_size _ rfl, rfl, rfl⟩, hl.at fun o e => up _ _ e⟩ (fun b hb => ?_)
    (F.keeps up) (N.grown up) (Nat.ne_of_lt F.ns.lt) (next_is_new F) (fun p hp => Nat.ne_of_lt (Heap.lt_size (N p hp).1)) hm (R _) ?_
  · intro i h h' o nw st e e' _ N' S'
    refine ⟨?_, ⟨_, N'.get S', rfl, _, rfl⟩⟩
    obtain ⟨o', q, r⟩ := st.1
    rw [e] at q
    cases q
    exact ⟨o, e', r⟩
  · show b < (s₁.heap.push _).objs.size
    rw [Heap.size_push]
    rcases List.mem_cons.mp hb with rfl | hb
    · exact Nat.lt_succ_self _
    · rw [List.mem_singleton.mp hb]
      exact Nat.lt_succ_of_lt hlt
  · intro D C h tk m' ys news' F' N' o1 hn hC₀ hD₀ hCL hDL hCD offC fin
    refine ⟨m', hn, fun h'' hs'' => fin D h'' tk (F'.change hs'' hCL hC₀) (fun p hp => ?_) o1⟩
    refine ⟨hs''.extBut _ _ ?_ (N' p hp).1, (N' p hp).2⟩
    rcases List.mem_cons.mp hp with rfl | hp
    · exact Ne.symm hCD
    · exact offC p hp
end
def manyF (x : Int) : Int := if x < 128 then 0 else if x < 2048 then 1 else if x < 65536 then 2 else 3
section
local macro_rules | `(tactic| walk_at "CompEnd") => `(tactic| (k_dflt (refine compEnd_same (by k_asm) (by k_asm) (by first | assumption | (simp only [LCg.Off3, and_true]; assumption)) (by k_mem) ?_)))
local macro_rules | `(tactic| walk_at "eval ListComp") => `(tactic| (k_here; k_dflt (refine comp_tup (by k_asm) (by with_unfolding_all rfl) (by decide) (by rfl) (by decide) (by rfl) ?_)))
theorem many_c (x : Int) (t : Tok) (R : Led) :
    Ct PySem.Challenge.rw_xm0739_01 hd.heap_39 1 61 R [.int x t] (fun r nw => ∃ td, r = .int (manyF x) td ∧ nw = R) := by
  k_fill
  unfold Ct
  intro w mean mg mb dp un gd cn cs aa ccd cl outer A₀ base h₀ L m s Q E B F X N T hk hd hu hret
  refine wpAny_call ?_
  k_dflt (refine' code_defC ?k1 ?k2 ?k3 ?k4 ?k5 ?kA ?kF ?kK ?k6 ?k7 ?k8 ?k9 ?kB ?kD ?_ ?c2 ?c3 ?c4; (case kA => exact rfl); (case kF => exact rfl); (case kK => assumption); (case k1 => k_asm); (case k2 => k_asm); (case k3 => k_asm); (case k4 => k_asm); (case k5 => k_asm); (case k6 => k_is); (case k7 => k_is); (case k8 => ktr_room); (case k9 => exact BindsTo.of_eq rfl); (case kB => exact rfl); (case kD => decide +kernel); (case c2 => exact rfl); (case c3 => exact rfl); (case c4 => exact rfl); k_whole; intro g' L' h' tk' cells' FG' F' N' Y' B' X' T' l1; (try k_lt l1); k_cells Y'; (try simp only [List.cons_append, List.nil_append] at N'); (try dsimp only); (try k_lift B'); (try k_fold))
  k_steps
  refine TupSrc.intro (by rfl) (by k_asm) (by k_asm) (by k_mem) 3 rfl (by decide) ?_
  intro g9
  k_steps
  all_goals (refine hret _ _ _ _ (by assumption) (df3 (by assumption)) ⟨_, congrArg (Value.int · _) ?_, rfl⟩)
  all_goals (unfold manyF; (repeat' split) <;> omega)
end
end
section
def TupIs (a b c : Int) (o : Obj) : Prop := ∃ ta tb tc n, o = tupOf #[.int a ta, .int b tb, .int c tc] n
theorem tupIs_mk {a b c b' : Int} {ta tb tc : Tok} {n : Nat} (h : b' = b) : TupIs a b c { cls := .type "tuple", data := .seq [Value.int a ta, .int b' tb, .int c tc].toArray n } := by
  subst h
  exact ⟨_, _, _, _, rfl⟩
def leadF (o : Int) : Option (Int × Int × Int) :=
  if o < 128 then some (0, o, 0) else if 194 ≤ o ∧ o < 224 then some (1, o - 192, 128) else if 224 ≤ o ∧ o < 240 then some (2, o - 224, 2048) else if 240 ≤ o ∧ o < 245 then some (3, o - 240, 65536) else none
theorem leadF_0 {o : Int} (h : o < 128) : leadF o = some (0, o, 0) := by unfold leadF; (repeat' split) <;> first | rfl | omega
theorem leadF_1 {o : Int} (h : 194 ≤ o) (h' : o < 224) : leadF o = some (1, o - 192, 128) := by unfold leadF; (repeat' split) <;> first | rfl | omega
theorem leadF_2 {o : Int} (h : 224 ≤ o) (h' : o < 240) : leadF o = some (2, o - 224, 2048) := by unfold leadF; (repeat' split) <;> first | rfl | omega
theorem leadF_3 {o : Int} (h : 240 ≤ o) (h' : o < 245) : leadF o = some (3, o - 240, 65536) := by unfold leadF; (repeat' split) <;> first | rfl | omega
theorem leadF_n {o : Int} (h : 128 ≤ o ∧ o < 194 ∨ 245 ≤ o) : leadF o = none := by unfold leadF; (repeat' split) <;> first | rfl | omega
def LeadOut (R : Led) (l : Option (Int × Int × Int)) (r : Value) (nw : Led) : Prop := match l with
  | none => r = .none ∧ nw = R
  | some (f, c, e) => ∃ x ob, r = .ref x ∧ nw = (x, ob) :: R ∧ TupIs f c e ob ∧ AllLt x R
section
theorem lead_of_c (o : Int) (t : Tok) (R : Led) (h0 : 0 ≤ o) (h1 : o < 256) :
    Ct PySem.Challenge.rw_xm0739_01 hd.heap_39 1 21 R [.int o t] (LeadOut R (leadF o)) := by
  k_fill
  unfold Ct
  intro w mean mg mb dp un gd cn cs aa ccd cl outer A₀ base h₀ L m s Q E B F X N T hk hd hu hret
  refine wpAny_call ?_
  k_dflt cell_enter
  k_steps
  · refine hret _ _ _ _ (by assumption) (by assumption) ?_
    rw [leadF_0 (by omega)]
    exact ⟨_, _, rfl, rfl, tupIs_mk rfl, allLt_of (by assumption)⟩
  · refine hret _ _ _ _ (by assumption) (by assumption) ?_
    rw [leadF_1 (by omega) (by omega)]
    exact ⟨_, _, rfl, rfl, tupIs_mk (by rw [bitAnd_m5]; omega), allLt_of (by assumption)⟩
  · refine hret _ _ _ _ (by assumption) (by assumption) ?_
    rw [leadF_2 (by omega) (by omega)]
    exact ⟨_, _, rfl, rfl, tupIs_mk (by rw [bitAnd_m4]; omega), allLt_of (by assumption)⟩
  · refine hret _ _ _ _ (by assumption) (by assumption) ?_
    rw [leadF_3 (by omega) (by omega)]
    exact ⟨_, _, rfl, rfl, tupIs_mk (by rw [bitAnd_m3]; omega), allLt_of (by assumption)⟩
  all_goals (refine hret _ _ _ _ (by assumption) (by assumption) ?_; rw [leadF_n (by omega)]; exact ⟨rfl, rfl⟩)
end
end
section
def baseF (m : Int) : Int := if m = 0 then 0 else if m = 1 then 192 else if m = 2 then 224 else 240
def leastF (m : Int) : Int := if m = 0 then 0 else if m = 1 then 128 else if m = 2 then 2048 else 65536
section
theorem law_lead_c (m : Int) (tm : Tok) (b : Array UInt8) (tb : Tok) (ks : List Int) (R : Led) (hm : m = 0 ∨ m = 1 ∨ m = 2 ∨ m = 3) (hb : KBw.bInts b = ks) (hk0 : 0 < ks.length) (hk1 : ks.length < 100) :
    Ct PySem.Challenge.rw_xm0739_01 hd.heap_39 1 75 R [.bytes b tb, .int m tm] (LeadOut R (some (m, ks.getD 0 0 - baseF m, leastF m))) := by
  rcases hm with rfl | rfl | rfl | rfl
  · k_fill
    unfold Ct
    intro w mean mg mb dp un gd cn cs aa ccd cl outer A₀ base h₀ L m s Q E B F X N T hk hd hu hret
    refine wpAny_call ?_
    k_dflt cell_enter
    k_steps
    refine hret _ _ _ _ (by assumption) (dr2 (by assumption)) ⟨_, _, rfl, rfl, tupIs_mk ?_, (by assumption : _ ∧ _ ∧ AllLt _ R).2.2⟩
    first | rfl | simp [baseF]
  · k_fill
    unfold Ct
    intro w mean mg mb dp un gd cn cs aa ccd cl outer A₀ base h₀ L m s Q E B F X N T hk hd hu hret
    refine wpAny_call ?_
    k_dflt cell_enter
    k_steps
    refine hret _ _ _ _ (by assumption) (dr2 (by assumption)) ⟨_, _, rfl, rfl, tupIs_mk ?_, (by assumption : _ ∧ _ ∧ AllLt _ R).2.2⟩
    first | rfl | simp [baseF]
  · k_fill
    unfold Ct
    intro w mean mg mb dp un gd cn cs aa ccd cl outer A₀ base h₀ L m s Q E B F X N T hk hd hu hret
    refine wpAny_call ?_
    k_dflt cell_enter
    k_steps
    refine hret _ _ _ _ (by assumption) (dr2 (by assumption)) ⟨_, _, rfl, rfl, tupIs_mk ?_, (by assumption : _ ∧ _ ∧ AllLt _ R).2.2⟩
    first | rfl | simp [baseF]
  · k_fill
    unfold Ct
    intro w mean mg mb dp un gd cn cs aa ccd cl outer A₀ base h₀ L m s Q E B F X N T hk hd hu hret
    refine wpAny_call ?_
    k_dflt cell_enter
    k_steps
    refine hret _ _ _ _ (by assumption) (dr2 (by assumption)) ⟨_, _, rfl, rfl, tupIs_mk ?_, (by assumption : _ ∧ _ ∧ AllLt _ R).2.2⟩
    first | rfl | simp [baseF]

end
end
section
def topF (m : Int) : Int := if m = 0 then 128 else if m = 1 then 2048 else if m = 2 then 65536 else 2097152
def writtenF (m x : Int) : List Int :=
  if m = 0 then [x] else if m = 1 then [192 + x / 64, 128 + x % 64] else if m = 2 then [224 + x / 4096, 128 + x / 64 % 64, 128 + x % 64] else [240 + x / 262144, 128 + x / 4096 % 64, 128 + x / 64 % 64, 128 + x % 64]
section
variable {prog : Program} {w : World} {A : Around} {E : Value → Shared → Prop} {s : Shared} {h₀ : Heap} {L D : Addr} {m : Str → Option Value} {news : Led} {vs : List Value} {ns : List Int}
theorem bytes_mk {Q : Value → Shared → Prop} (F : Fr h₀ L s.heap m) (N : News h₀ L s.heap news) (hh : A.handled = none) (hl : s.heap.IsList D vs.toArray) (hi : IntsAre vs ns) (hr : ∀ n ∈ ns, 0 ≤ n ∧ n < 256) (hn : ns.length ≤ 1000)
    (h : ∀ h' t' k b, Fr h₀ L h' m → News h₀ L h' news → KBw.bInts b = ns → Q (.bytes b t') { s with heap := h', toks := k }) : wpAny (model prog w) A (call (.type "bytes") [.ref D]) Q E s :=
  KBa.make_K F N hh hl hi hr (by omega) fun h' t' k F' N' _ => h h' t' k _ F' N' (KBa.ints_make hr)
end
section
local macro_rules | `(tactic| walk_at "call type:bytes") => `(tactic| (k_here; (with_reducible show wpAny _ _ (call (Value.type _) [Value.ref _]) _ _ _); k_dflt (refine' bytes_mk ?F ?N ?h ?l ?i ?r ?z ?_; (case F => k_asm); (case N => k_asm); (case h => rfl); (case l => is_list); (case i => first | l_ints | (repeat' (first | exact IntsAre.nil | refine' IntsAre.cons _ _ ?_))); (case r => (simp only [List.forall_mem_cons, List.not_mem_nil, false_implies, implies_true, and_true, Int.fdiv_eq_ediv_of_nonneg _ (by decide : (0 : Int) ≤ 64), Int.fmod_eq_emod_of_nonneg _ (by decide : (0 : Int) ≤ 64)]; omega)); (case z => exact Nat.le_of_ble_eq_true rfl); k_whole); intro _ _ _ b' F' N' hb'))
theorem written_c (x : Int) (tx : Tok) (m : Int) (tm : Tok) (d1 d2 d3 : Addr) (o1 o2 o3 : Obj) (hm : m = 0 ∨ m = 1 ∨ m = 2 ∨ m = 3) (h0 : 0 ≤ x) (h1 : x < topF m) :
    Ct PySem.Challenge.rw_xm0739_01 hd.heap_39 1 68 [(d1, o1), (d2, o2), (d3, o3)] [.int x tx, .int m tm] (fun r nw => ∃ b tb, r = .bytes b tb ∧ KBw.bInts b = writtenF m x ∧ nw = [(d1, o1), (d2, o2), (d3, o3)]) := by
  rcases hm with rfl | rfl | rfl | rfl
  · replace h1 : x < 128 := h1
    k_fill
    unfold Ct
    intro w mean mg mb dp un gd cn cs aa ccd cl outer A₀ base h₀ L m s Q E B F X N T hk hd hu hret
    refine wpAny_call ?_
    k_dflt cell_enter
    k_steps
    have e9 : writtenF 0 x = [x] := rfl
    refine' hret _ _ _ _ (by assumption) (cb_drop ?cbN ?cbS) ⟨_, _, rfl, (by assumption : KBw.bInts _ = _).trans ?_, rfl⟩
    (case cbN => assumption)
    (case cbS => kcj_all)
    rw [e9]
    (try simp only [Int.fdiv_eq_ediv_of_nonneg _ (by decide : (0 : Int) ≤ 64), Int.fmod_eq_emod_of_nonneg _ (by decide : (0 : Int) ≤ 64)])
    simp only [List.cons.injEq, and_true]
    omega
  · replace h1 : x < 2048 := h1
    k_fill
    unfold Ct
    intro w mean mg mb dp un gd cn cs aa ccd cl outer A₀ base h₀ L m s Q E B F X N T hk hd hu hret
    refine wpAny_call ?_
    k_dflt cell_enter
    k_steps
    have e9 : writtenF 1 x = [192 + x / 64, 128 + x % 64] := rfl
    refine' hret _ _ _ _ (by assumption) (cb_drop ?cbN ?cbS) ⟨_, _, rfl, (by assumption : KBw.bInts _ = _).trans ?_, rfl⟩
    (case cbN => assumption)
    (case cbS => kcj_all)
    rw [e9]
    (try simp only [Int.fdiv_eq_ediv_of_nonneg _ (by decide : (0 : Int) ≤ 64), Int.fmod_eq_emod_of_nonneg _ (by decide : (0 : Int) ≤ 64)])
    simp only [List.cons.injEq, and_true]
    omega
  · replace h1 : x < 65536 := h1
    k_fill
    unfold Ct
    intro w mean mg mb dp un gd cn cs aa ccd cl outer A₀ base h₀ L m s Q E B F X N T hk hd hu hret
    refine wpAny_call ?_
    k_dflt cell_enter
    k_steps
    have e9 : writtenF 2 x = [224 + x / 4096, 128 + x / 64 % 64, 128 + x % 64] := rfl
    refine' hret _ _ _ _ (by assumption) (cb_drop ?cbN ?cbS) ⟨_, _, rfl, (by assumption : KBw.bInts _ = _).trans ?_, rfl⟩
    (case cbN => assumption)
    (case cbS => kcj_all)
    rw [e9]
    (try simp only [Int.fdiv_eq_ediv_of_nonneg _ (by decide : (0 : Int) ≤ 64), Int.fmod_eq_emod_of_nonneg _ (by decide : (0 : Int) ≤ 64)])
    simp only [List.cons.injEq, and_true]
    omega
  · replace h1 : x < 2097152 := h1
    k_fill
    unfold Ct
    intro w mean mg mb dp un gd cn cs aa ccd cl outer A₀ base h₀ L m s Q E B F X N T hk hd hu hret
    refine wpAny_call ?_
    k_dflt cell_enter
    k_steps
    have e9 : writtenF 3 x = [240 + x / 262144, 128 + x / 4096 % 64, 128 + x / 64 % 64, 128 + x % 64] := rfl
    refine' hret _ _ _ _ (by assumption) (cb_drop ?cbN ?cbS) ⟨_, _, rfl, (by assumption : KBw.bInts _ = _).trans ?_, rfl⟩
    (case cbN => assumption)
    (case cbS => kcj_all)
    rw [e9]
    (try simp only [Int.fdiv_eq_ediv_of_nonneg _ (by decide : (0 : Int) ≤ 64), Int.fmod_eq_emod_of_nonneg _ (by decide : (0 : Int) ≤ 64)])
    simp only [List.cons.injEq, and_true]
    omega
end
end
section
theorem and192 {k : Int} (h0 : 0 ≤ k) (h1 : k < 256) : Builtin.bitAnd k 192 = 128 ↔ (128 ≤ k ∧ k < 192) := by
  have key : ∀ n : Nat, n < 256 → (Builtin.bitAnd (n : Int) 192 = 128 ↔ (128 ≤ n ∧ n < 192)) := by decide +kernel
  obtain ⟨n, rfl⟩ := Int.eq_ofNat_of_zero_le h0
  have := key n (by omega)
  omega
theorem or64 {c y : Int} (hc : 0 ≤ c) (hy : 0 ≤ y) (hy' : y < 64) : Builtin.bitOr (c * 64) y = c * 64 + y := by
  obtain ⟨c, rfl⟩ := Int.eq_ofNat_of_zero_le hc
  obtain ⟨y, rfl⟩ := Int.eq_ofNat_of_zero_le hy
  have e : ∀ u v : Nat, Builtin.bitOr (u : Int) (v : Int) = ((u ||| v : Nat) : Int) := by
    intro u v
    unfold Builtin.bitOr Builtin.bitAnd Builtin.bitNot
    have h1 : decide (0 ≤ -(u : Int) - 1) = false := decide_eq_false (by omega)
    have h2 : decide (0 ≤ -(v : Int) - 1) = false := decide_eq_false (by omega)
    simp only [h1, h2]
    have h3 : (-(-(u : Int) - 1) - 1).toNat = u := by omega
    have h4 : (-(-(v : Int) - 1) - 1).toNat = v := by omega
    rw [h3, h4]
    omega
  have h5 : (c : Int) * 64 = ((2 ^ 6 * c : Nat) : Int) := by omega
  rw [h5, e, ← Nat.two_pow_add_eq_or_of_lt (by omega : y < 2 ^ 6)]
  omega
section
variable {prog : Program} {w : World} {A : Around} {E : Value → Shared → Prop} {s : Shared} {k c y : Int} {t u : Tok} {Q : Value → Shared → Prop}
theorem and_192 (h0 : 0 ≤ k) (h1 : k < 256) (h : ∀ v t' k', (v = 128 ↔ (128 ≤ k ∧ k < 192)) → Q (.int v t') { s with toks := k' }) : wpAny (model prog w) A (binaryOp .BitAnd (.int k t) (.int 192 u)) Q E s := and_int (h _ _ _ (and192 h0 h1))
theorem and_63 (h : ∀ t' k', Q (.int (k % 64) t') { s with toks := k' }) : wpAny (model prog w) A (binaryOp .BitAnd (.int k t) (.int 63 u)) Q E s := and_int (by rw [bitAnd_m6]; exact h _ _)
theorem shl_6 (h0 : 0 ≤ c) (h1 : c < 1099511627776) (h : ∀ t' k', Q (.int (c * 64) t') { s with toks := k' }) : wpAny (model prog w) A (binaryOp .LShift (.int c t) (.int 6 u)) Q E s :=
  lshift_int_small (by decide) (by decide) (by omega) (h _ _)
theorem or_64 (h0 : 0 ≤ c) (h1 : 0 ≤ y) (h2 : y < 64) (h : ∀ t' k', Q (.int (c * 64 + y) t') { s with toks := k' }) : wpAny (model prog w) A (binaryOp .BitOr (.int (c * 64) t) (.int y u)) Q E s := or_int (by rw [or64 h0 h1 h2]; exact h _ _)
theorem ne_prop {x z : Int} (h : Q (.bool (decide (x ≠ z))) s) : wpAny (model prog w) A (compareOp .NotEq (.int x t) (.int z u)) Q E s := ne_int (by
  have e : (x != z) = decide (x ≠ z) := by rw [Bool.eq_iff_iff]; simp
  rw [e]
  exact h)
end
def runL : Nat → Int → List Int → Option Int
  | 0, c, _ => some c
  | _ + 1, _, [] => none
  | f + 1, c, k :: ks => if 128 ≤ k ∧ k < 192 then runL f (c * 64 + k % 64) ks else none
def finF (v e : Int) : Option Int := if v < e ∨ 1114111 < v ∨ (55296 ≤ v ∧ v < 57344) then none else some v
def codeF (f : Nat) (c e : Int) (l : List Int) : Option Int := match runL f c l with
  | none => none
  | some v => finF v e
def CodeOut (R : Led) (o : Option Int) (r : Value) (nw : Led) : Prop := nw = R ∧ match o with
  | none => r = .none
  | some v => ∃ t, r = .int v t
theorem runL_short : ∀ (f : Nat) (c : Int) (l : List Int), l.length < f → runL f c l = none
  | 0, _, _, h => absurd h (Nat.not_lt_zero _)
  | f + 1, _, [], _ => rfl
  | f + 1, c, k :: ks, h => by
    unfold runL
    split
    · exact runL_short f _ ks (by simp only [List.length_cons] at h; omega)
    · rfl
theorem codeF_short {f : Nat} {c e a : Int} {ks : List Int} (ha : 0 ≤ a) (ha' : a ≤ ks.length) (h : (ks.length : Int) < a + f) : codeF f c e (ks.drop a.toNat) = none := by
  unfold codeF
  rw [runL_short _ _ _ (by rw [List.length_drop]; omega)]
theorem drop_at {p : Int} {ks : List Int} (h0 : 0 ≤ p) (h1 : p < ks.length) : ks.drop p.toNat = ks.getD p.toNat 0 :: ks.drop (p + 1).toNat := by
  have h : p.toNat < ks.length := by omega
  have e : (p + 1).toNat = p.toNat + 1 := by omega
  rw [e, List.getD_eq_getElem?_getD, List.getElem?_eq_getElem h]
  exact List.drop_eq_getElem_cons h
theorem codeF_step {f : Nat} {c e p q : Int} {ks : List Int} (h0 : 0 ≤ p) (h1 : p < ks.length) (hq : q = p + 1) :
    codeF (f + 1) c e (ks.drop p.toNat) = if 128 ≤ ks.getD p.toNat 0 ∧ ks.getD p.toNat 0 < 192 then codeF f (c * 64 + ks.getD p.toNat 0 % 64) e (ks.drop q.toNat) else none := by
  subst hq
  unfold codeF
  rw [drop_at h0 h1]
  simp only [runL]
  by_cases hh : 128 ≤ ks.getD p.toNat 0 ∧ ks.getD p.toNat 0 < 192
  · rw [if_pos hh, if_pos hh]
  · rw [if_neg hh, if_neg hh]
theorem codeF_start {f : Nat} {c e a : Int} {ks : List Int} : codeF f c e (ks.drop a.toNat) = codeF f c e (ks.drop (a + ((0 : Nat) : Int)).toNat) := by
  rw [show a + ((0 : Nat) : Int) = a from by omega]
theorem codeF_zero {c e : Int} {l : List Int} : codeF 0 c e l = finF c e := rfl
theorem codeOut_none {R : Led} {o : Option Int} (h : o = none) : CodeOut R o .none R := by subst h; exact ⟨rfl, rfl⟩
theorem codeOut_some {R : Led} {o : Option Int} {v : Int} {t : Tok} (h : o = some v) : CodeOut R o (.int v t) R := by subst h; exact ⟨rfl, _, rfl⟩
section
local macro_rules | `(tactic| walk_at "binaryOp BitAnd int int") => `(tactic| first | ((with_reducible show wpAny _ _ (binaryOp Operator.BitAnd (Value.int _ _) (Value.int 192 _)) _ _ _); (refine and_192 (by omega) (by omega) ?_); intro v9 _ _ hv9) | ((with_reducible show wpAny _ _ (binaryOp Operator.BitAnd (Value.int _ _) (Value.int 63 _)) _ _ _); (refine and_63 ?_); intro _ _))
local macro_rules | `(tactic| walk_at "binaryOp LShift int int") => `(tactic| ((refine shl_6 (by omega) (by omega) ?_); intro _ _))
local macro_rules | `(tactic| walk_at "binaryOp BitOr int int") => `(tactic| ((refine or_64 (by omega) (by omega) (by omega) ?_); intro _ _))
local macro_rules | `(tactic| walk_at "UnrEnd") => `(tactic| (refine' UnrEnd.intro ?uF ?uN _ (fun _ h => h) ?uo ?_; (case uF => assumption); (case uN => assumption); (case uo => k_all); k_whole))
local macro_rules | `(tactic| walk_at "compareOp NotEq int int") => `(tactic| (refine ne_prop ?_))
local macro_rules | `(tactic| walk_at "pyIter ref") => `(tactic| (k_here; (with_reducible show wpAny _ _ (pyIter (Value.ref _)) (fun it s₂ => LoopAtV _ _ _ _ _ _ _ _ _ it s₂) _ _); (with_reducible rename Fr _ _ _ _ => lF'); (with_reducible rename News _ _ _ _ => lN'); (with_reducible rename IsRange _ _ _ _ _ _ _ _ => lR'); (first | ((with_unfolding_all refine iter_rangeUnr (n := 0) (by rfl) lR' (small_one (by omega) (by omega) (by omega) (by omega)) (by rw [rangeSize_nat]; omega) lF' lN' ?_)) | ((with_unfolding_all refine iter_rangeUnr (n := 1) (by rfl) lR' (small_one (by omega) (by omega) (by omega) (by omega)) (by rw [rangeSize_nat]; omega) lF' lN' ?_)) | ((with_unfolding_all refine iter_rangeUnr (n := 2) (by rfl) lR' (small_one (by omega) (by omega) (by omega) (by omega)) (by rw [rangeSize_nat]; omega) lF' lN' ?_)) | ((with_unfolding_all refine iter_rangeUnr (n := 3) (by rfl) lR' (small_one (by omega) (by omega) (by omega) (by omega)) (by rw [rangeSize_nat]; omega) lF' lN' ?_))); clear lF' lN'; intro i' l1; (try k_lt l1)))
theorem code_c (b : Array UInt8) (tb : Tok) (ks : List Int) (a : Int) (ta : Tok) (x : Addr) (f c e : Int) (ob : Obj) (d2 d3 d4 : Addr) (o2 o3 o4 : Obj) (hb : KBw.bInts b = ks) (ha : 0 ≤ a) (ha' : a ≤ ks.length) (hk : ks.length ≤ 100) (hf : f = 0 ∨ f = 1 ∨ f = 2 ∨ f = 3) (hc : 0 ≤ c) (hc' : c < 256) (hob : TupIs f c e ob) :
    Ct PySem.Challenge.rw_xm0739_01 hd.heap_39 1 28 [(x, ob), (d2, o2), (d3, o3), (d4, o4)] [.bytes b tb, .int a ta, .ref x] (CodeOut [(x, ob), (d2, o2), (d3, o3), (d4, o4)] (codeF f.toNat c e (ks.drop a.toNat))) := by
  obtain ⟨tf, tc, te, n, rfl⟩ := hob
  rcases hf with rfl | rfl | rfl | rfl
  · k_fill
    unfold Ct
    intro w mean mg mb dp un gd cn cs aa ccd cl outer A₀ base h₀ L m s Q E B F X N T hk hd hu hret
    refine wpAny_call ?_
    k_dflt cell_enter
    k_steps
    all_goals (first | refine hret _ [(x, _), (d2, o2), (d3, o3), (d4, o4)] _ _ (by assumption) (by first | assumption | exact df1 (by assumption)) (codeOut_none ?_) | refine hret _ [(x, _), (d2, o2), (d3, o3), (d4, o4)] _ _ (by assumption) (by first | assumption | exact df1 (by assumption)) (codeOut_some ?_))
    all_goals (first | exact codeF_short ha ha' (by omega) | (rw [codeF_start]; (show codeF 0 _ _ _ = _); rw [codeF_zero]; unfold finF; (repeat' split) <;> first | rfl | omega))
  · k_fill
    unfold Ct
    intro w mean mg mb dp un gd cn cs aa ccd cl outer A₀ base h₀ L m s Q E B F X N T hk hd hu hret
    refine wpAny_call ?_
    k_dflt cell_enter
    k_steps
    all_goals (first | refine hret _ [(x, _), (d2, o2), (d3, o3), (d4, o4)] _ _ (by assumption) (by first | assumption | exact df1 (by assumption)) (codeOut_none ?_) | refine hret _ [(x, _), (d2, o2), (d3, o3), (d4, o4)] _ _ (by assumption) (by first | assumption | exact df1 (by assumption)) (codeOut_some ?_))
    all_goals (first | exact codeF_short ha ha' (by omega) | (rw [codeF_start]; (show codeF 1 _ _ _ = _); rw [codeF_step (f := 0) (p := a + ((0 : Nat) : Int)) (q := a + ((0 + 1 : Nat) : Int)) (by omega) (by omega) (by omega)]; rw [codeF_zero]; unfold finF; (repeat' split) <;> first | rfl | omega))
  · k_fill
    unfold Ct
    intro w mean mg mb dp un gd cn cs aa ccd cl outer A₀ base h₀ L m s Q E B F X N T hk hd hu hret
    refine wpAny_call ?_
    k_dflt cell_enter
    k_steps
    all_goals (first | refine hret _ [(x, _), (d2, o2), (d3, o3), (d4, o4)] _ _ (by assumption) (by first | assumption | exact df1 (by assumption)) (codeOut_none ?_) | refine hret _ [(x, _), (d2, o2), (d3, o3), (d4, o4)] _ _ (by assumption) (by first | assumption | exact df1 (by assumption)) (codeOut_some ?_))
    all_goals (first | exact codeF_short ha ha' (by omega) | (rw [codeF_start]; (show codeF 2 _ _ _ = _); rw [codeF_step (f := 1) (p := a + ((0 : Nat) : Int)) (q := a + ((0 + 1 : Nat) : Int)) (by omega) (by omega) (by omega)]; rw [codeF_step (f := 0) (p := a + ((0 + 1 : Nat) : Int)) (q := a + ((0 + 1 + 1 : Nat) : Int)) (by omega) (by omega) (by omega)]; rw [codeF_zero]; unfold finF; (repeat' split) <;> first | rfl | omega))
  · k_fill
    unfold Ct
    intro w mean mg mb dp un gd cn cs aa ccd cl outer A₀ base h₀ L m s Q E B F X N T hk hd hu hret
    refine wpAny_call ?_
    k_dflt cell_enter
    k_steps
    all_goals (first | refine hret _ [(x, _), (d2, o2), (d3, o3), (d4, o4)] _ _ (by assumption) (by first | assumption | exact df1 (by assumption)) (codeOut_none ?_) | refine hret _ [(x, _), (d2, o2), (d3, o3), (d4, o4)] _ _ (by assumption) (by first | assumption | exact df1 (by assumption)) (codeOut_some ?_))
    all_goals (first | exact codeF_short ha ha' (by omega) | (rw [codeF_start]; (show codeF 3 _ _ _ = _); rw [codeF_step (f := 2) (p := a + ((0 : Nat) : Int)) (q := a + ((0 + 1 : Nat) : Int)) (by omega) (by omega) (by omega)]; rw [codeF_step (f := 1) (p := a + ((0 + 1 : Nat) : Int)) (q := a + ((0 + 1 + 1 : Nat) : Int)) (by omega) (by omega) (by omega)]; rw [codeF_step (f := 0) (p := a + ((0 + 1 + 1 : Nat) : Int)) (q := a + ((0 + 1 + 1 + 1 : Nat) : Int)) (by omega) (by omega) (by omega)]; rw [codeF_zero]; unfold finF; (repeat' split) <;> first | rfl | omega))
end
end
section
section
variable {h₀ h : Heap} {L : Addr} {x1 x2 : Addr × Obj} {r : Led}
theorem dup2 (N : News h₀ L h [x1]) : News h₀ L h [x1, x1] := fun p hp => N p (by simp only [List.mem_cons, List.not_mem_nil, or_false, or_self] at hp ⊢; exact hp)
theorem ft2 (N : News h₀ L h (x1 :: x2 :: r)) : News h₀ L h [x1, x2] := fun p hp => N p (by simp only [List.mem_cons, List.not_mem_nil, or_false] at hp ⊢; rcases hp with hp | hp <;> simp only [hp, true_or, or_true])
theorem ft1 (N : News h₀ L h (x1 :: r)) : News h₀ L h [x1] := fun p hp => N p (by simp only [List.mem_cons, List.not_mem_nil, or_false] at hp ⊢; simp only [hp, true_or])
end
theorem leadF_some {o f c e : Int} (h : leadF o = some (f, c, e)) : (f = 0 ∨ f = 1 ∨ f = 2 ∨ f = 3) ∧ c ≤ o ∧ (0 ≤ o → 0 ≤ c) := by
  unfold leadF at h
  (repeat' split at h) <;> (simp only [Option.some.injEq, Prod.mk.injEq, reduceCtorEq] at h) <;> omega
theorem written_len (m x : Int) : 1 ≤ (writtenF m x).length ∧ (writtenF m x).length ≤ 4 := by
  unfold writtenF
  (repeat' split) <;> simp
def isNoneF (m x : Int) : Bool := match leadF ((writtenF m x).getD 0 0) with
  | none => true
  | some (f, c, e) => (codeF f.toNat c e (writtenF m x).tail).isNone
theorem drop_app (as w : List Int) : (as ++ w).drop (((as.length : Nat) : Int) + 1).toNat = w.tail := by
  have e : (((as.length : Nat) : Int) + 1).toNat = as.length + 1 := by omega
  rw [e, List.drop_append, List.drop_eq_nil_of_le (by omega), List.nil_append, ← List.drop_one]
  congr 1
  omega
theorem isNoneF_none {m x : Int} (h : leadF ((writtenF m x).getD (Int.toNat 0) 0) = none) : true = isNoneF m x := by
  have h' : leadF ((writtenF m x).getD 0 0) = none := h
  unfold isNoneF
  rw [h']
theorem isNoneF_some {m x f c e : Int} {as : List Int} {r : Option Int} (h : leadF ((writtenF m x).getD (Int.toNat 0) 0) = some (f, c, e))
    (h2 : codeF f.toNat c e (List.drop (((as.length : Nat) : Int) + 1).toNat (as ++ writtenF m x)) = r) : r.isNone = isNoneF m x := by
  have h' : leadF ((writtenF m x).getD 0 0) = some (f, c, e) := h
  unfold isNoneF
  rw [h', ← h2, drop_app]
section
local macro_rules | `(tactic| walk_at "call ref") => `(tactic| (k_here; (with_reducible show wpAny _ _ (call (Value.ref 68) _) _ _ _); k_dflt (refine' Ct.use (written_c _ _ _ _ _ _ _ _ _ _ ?hm ?h0 ?h1) ?k4 ?_; (case k4 => with_reducible assumption); (case hm => with_reducible assumption); (case h0 => with_reducible assumption); (case h1 => with_reducible assumption); k_whole); intro r9 nw9 h' tk9 F' N' ho9; obtain ⟨b9, tb9, hr9, hb9, hn9⟩ := ho9; subst hr9; subst hn9; (try k_sweep); (try dsimp only); (try k_fold)))
local macro_rules | `(tactic| walk_at "call ref") => `(tactic| (k_here; (with_reducible show wpAny _ _ (call (Value.ref 21) _) _ _ _); k_dflt (refine' Ct.use (lead_of_c _ _ _ ?h0 ?h1) ?k4 ?_; (case k4 => with_reducible assumption); (case h0 => first | with_reducible assumption | omega); (case h1 => first | with_reducible assumption | omega); k_whole); intro r9 nw9 h' tk9 F' N' ho9; unfold LeadOut at ho9; split at ho9; all_goals (first | (obtain ⟨x9, ob9, hr9, hn9, ht9, hl9⟩ := ho9; subst hr9; subst hn9; (try simp only [AllLt, and_true] at hl9); (have hf9 := leadF_some (by with_reducible assumption))) | (obtain ⟨hr9, hn9⟩ := ho9; subst hr9; subst hn9)); all_goals ((try k_sweep); (try dsimp only); (try k_fold))))
local macro_rules | `(tactic| walk_at "call ref") => `(tactic| (k_here; (with_reducible show wpAny _ _ (call (Value.ref 28) _) _ _ _); k_dflt (refine' Ct.use (code_c _ _ _ _ _ _ _ _ _ _ _ _ _ _ _ _ ?hb ?ha ?ha' ?hk ?hf ?hc ?hc' ?hob) ?k4 ?_; (case k4 => with_reducible assumption); (case hob => first | with_reducible assumption | exact tupIs_mk rfl); (case hb => kba_ints); (case ha => omega); (case ha' => ((try simp only [List.length_append]); omega)); (case hk => ((try simp only [List.length_append]); omega)); (case hf => first | with_reducible assumption | omega); (case hc => omega); (case hc' => omega); k_whole); intro r9 nw9 h' tk9 F' N' ho9; unfold CodeOut at ho9; obtain ⟨hn9, ho9⟩ := ho9; subst hn9; split at ho9; all_goals (first | (obtain ⟨t9, hr9⟩ := ho9; subst hr9) | (have hr9 := ho9; subst hr9)); all_goals ((try k_sweep); (try dsimp only); (try k_fold))))
theorem is_none_c (x : Int) (tx : Tok) (q : Int) (tm : Tok) (ba : Array UInt8) (tb : Tok) (as : List Int) (d2 d3 d4 : Addr) (o2 o3 o4 : Obj) (hm : q = 0 ∨ q = 1 ∨ q = 2 ∨ q = 3) (h0 : 0 ≤ x) (h1 : x < topF q) (hba : KBw.bInts ba = as) (has : as.length ≤ 10) :
    Ct PySem.Challenge.rw_xm0739_01 hd.heap_39 2 82 [(d2, o2), (d3, o3), (d4, o4)] [.int x tx, .int q tm, .bytes ba tb] (fun r nw => r = .bool (isNoneF q x) ∧ nw = [(d2, o2), (d3, o3), (d4, o4)]) := by
  have hwl := written_len q x
  k_fill
  unfold Ct
  intro w mean mg mb dp un gd cn cs aa ccd cl outer A₀ base h₀ L m s Q E B F X N T hk hd hu hret
  refine wpAny_call ?_
  k_dflt cell_enter
  k_steps
  · exact hret _ _ _ _ (by assumption) (by assumption) ⟨congrArg Value.bool (isNoneF_none (by assumption)), rfl⟩
  · exact hret _ _ _ _ (by assumption) (df1 (by assumption)) ⟨congrArg Value.bool (isNoneF_some (by assumption) (by assumption) : Option.isNone none = _), rfl⟩
  · exact hret _ _ _ _ (by assumption) (df1 (by assumption)) ⟨congrArg Value.bool (isNoneF_some (by assumption) (by assumption) : Option.isNone (some _) = _), rfl⟩
end
end
section
section
variable {h₀ h : Heap} {L : Addr} {x1 x2 x3 y : Addr × Obj} {r : Led}
theorem pB {x4 x5 x6 : Addr × Obj} (N : News h₀ L h [x1, x2, x3, x4, x5, x6]) : News h₀ L h [x4, x2, x5, x6] := fun p hp => N p (by simp only [List.mem_cons, List.not_mem_nil, or_false] at hp ⊢; grind)
theorem un3 (N : News h₀ L h (y :: x1 :: x2 :: x3 :: r)) : News h₀ L h (x1 :: x2 :: x3 :: y :: r) := fun p hp => N p (by simp only [List.mem_cons] at hp ⊢; grind)
end
section
open PyProof.Rows.LCg
variable {prog : Program} {w : World} {A : Around} {s : Shared} {h₀ : Heap} {L : Addr} {m : Str → Option Value} {env : Env}
theorem takes_rest {elt : Expr} {x : Str} {scope : Scope} {cl : List (Str × Addr)} {P : Nat → Value → Prop} {Fin : List Value → Led → Prop} {l : Addr} {n : Nat} {R : Led} {M : Nat}
    (turn : ∀ (a : Int) (ta : Tok) (b : Int) (tb : Tok) (ys : List Value) (I : Addr) (oI : Obj) (C : Addr) (oC : Obj) (D : Addr) (m₂ : Str → Option Value) (h : Heap) (tk : Nat) (E' : Value → Shared → Prop) (v : Value), SrcOk a b → NsObj oC m₂ → m₂ x = some v → Fr h₀ L h m → News h₀ L h ((I, oI) :: (C, oC) :: (D, lst ys) :: Src l n a ta b tb :: R) → Off3 I C D (Src l n a ta b tb :: R) → ((@Ne Nat I C) ∧ (@Ne Nat I D) ∧ (@Ne Nat C D)) →
      wpAny (model prog w) A (eval elt (compEnvC scope cl C env)) (CompEnd h₀ L m { s with heap := h, toks := tk } I oI C oC D (lst ys) (fun _ => True) (fun y news' => ∃ d td a' ta' b' tb', y = .int d td ∧ 0 ≤ d ∧ d < 256 ∧ news' = Src l n a' ta' b' tb' :: R ∧ SrcOk a' b')) E' { s with heap := h, toks := tk })
    (fin : ∀ (ys : List Value) (ns : List Int) (a : Int) (ta : Tok) (b : Int) (tb : Tok), IntsAre ys ns → (∀ z ∈ ns, 0 ≤ z ∧ z < 256) → ns.length ≤ M → SrcOk a b → Fin ys (Src l n a ta b tb :: R)) :
    ∀ (k i : Nat) (ys : List Value) (ns : List Int) (a : Int) (ta : Tok) (b : Int) (tb : Tok), IntsAre ys ns → (∀ z ∈ ns, 0 ≤ z ∧ z < 256) → ns.length + k ≤ M → SrcOk a b →
      CompRest prog w A h₀ L m env elt x scope cl s (fun _ => True) P Fin k i ys (Src l n a ta b tb :: R) := by
  intro k
  induction k with
  | zero =>
    intro i ys ns a ta b tb hi hr hn hs
    exact fin ys ns a ta b tb hi hr (by omega) hs
  | succ k ih =>
    intro i ys ns a ta b tb hi hr hn hs
    refine CompRest.succ ?_
    intro v I oI C oC D m₂ h tk E' hv hC hx F N off ne
    refine wpAny_mono (turn a ta b tb ys I oI C oC D m₂ h tk E' v hs hC hx F N off ne) (fun y s₂ hq => ?_) fun _ _ e => e
    obtain ⟨h', tk', nw, rfl, F', N', off', hS, d, td, a', ta', b', tb', rfl, hd0, hd1, rfl, hs'⟩ := hq
    refine ⟨h', tk', _, rfl, F', N', off', hS, ih (i + 1) _ (ns ++ [d]) a' ta' b' tb' (IntsAre.append hi (.cons d td .nil)) ?_ (by rw [List.length_append, List.length_singleton]; omega) hs'⟩
    intro z hz
    rcases List.mem_append.mp hz with hz | hz
    · exact hr z hz
    · rw [List.mem_singleton.mp hz]
      exact ⟨hd0, hd1⟩
end
section
variable {prog : Program} {w : World} {A : Around} {E : Value → Shared → Prop} {s : Shared} {h₀ : Heap} {L D : Addr} {m : Str → Option Value} {news : Led} {vs : List Value} {ns : List Int} {n : Nat}
theorem bytes_top {Q : Value → Shared → Prop} (F : Fr h₀ L s.heap m) (N : News h₀ L s.heap ((D, listOf vs.toArray n) :: news)) (hh : A.handled = none) (hi : IntsAre vs ns) (hr : ∀ n ∈ ns, 0 ≤ n ∧ n < 256) (hn : ns.length ≤ 1000)
    (h : ∀ h' t' k b, Fr h₀ L h' m → News h₀ L h' news → KBw.bInts b = ns → Q (.bytes b t') { s with heap := h', toks := k }) : wpAny (model prog w) A (call (.type "bytes") [.ref D]) Q E s :=
  bytes_mk F N hh (PySem.IsL.isList (n := n) (N _ (.head _)).1) hi hr hn fun h' t' k b F' N' e => h h' t' k b F' (df1 N') e
end
theorem W0 {d : Int} (h : manyF d = 0) : writtenF (manyF d) d = [d] := by rw [h]; rfl
theorem W1 {d : Int} (h : manyF d = 1) : writtenF (manyF d) d = [192 + d / 64, 128 + d % 64] := by rw [h]; rfl
theorem W2 {d : Int} (h : manyF d = 2) : writtenF (manyF d) d = [224 + d / 4096, 128 + d / 64 % 64, 128 + d % 64] := by rw [h]; rfl
theorem W3 {d : Int} (h : manyF d = 3) : writtenF (manyF d) d = [240 + d / 262144, 128 + d / 4096 % 64, 128 + d / 64 % 64, 128 + d % 64] := by rw [h]; rfl
theorem many_cases {d : Int} (hs : SignOk d) : (manyF d = 0 ∧ 0 ≤ d ∧ d < 128) ∨ (manyF d = 1 ∧ 128 ≤ d ∧ d < 2048) ∨ (manyF d = 2 ∧ 2048 ≤ d ∧ d < 65536 ∧ ¬ (55296 ≤ d ∧ d < 57344)) ∨ (manyF d = 3 ∧ 65536 ≤ d ∧ d ≤ 1114111) := by
  obtain ⟨h0, h1, h2⟩ := hs
  unfold manyF
  (repeat' split) <;> omega
theorem lead_ok {d : Int} (hs : SignOk d) : leadF ((writtenF (manyF d) d).getD (Int.toNat 0) 0) = some (manyF d, (writtenF (manyF d) d).getD 0 0 - baseF (manyF d), leastF (manyF d)) := by
  show leadF ((writtenF (manyF d) d).getD 0 0) = _
  rcases many_cases hs with ⟨h, h0, h1⟩ | ⟨h, h0, h1⟩ | ⟨h, h0, h1, _⟩ | ⟨h, h0, h1⟩
  · rw [W0 h, h]
    show leadF d = some (0, d - 0, 0)
    rw [leadF_0 (by omega)]
    congr 3
    omega
  · rw [W1 h, h]
    show leadF (192 + d / 64) = some (1, 192 + d / 64 - 192, 128)
    rw [leadF_1 (by omega) (by omega)]
  · rw [W2 h, h]
    show leadF (224 + d / 4096) = some (2, 224 + d / 4096 - 224, 2048)
    rw [leadF_2 (by omega) (by omega)]
  · rw [W3 h, h]
    show leadF (240 + d / 262144) = some (3, 240 + d / 262144 - 240, 65536)
    rw [leadF_3 (by omega) (by omega)]
theorem many_ok {d : Int} (hs : SignOk d) : (manyF d = 0 ∨ manyF d = 1 ∨ manyF d = 2 ∨ manyF d = 3) ∧ 0 ≤ d ∧ d < topF (manyF d) := by
  obtain ⟨h0, h1, _⟩ := hs
  unfold manyF
  (repeat' split) <;> refine ⟨by omega, h0, ?_⟩
  · show d < 128; omega
  · show d < 2048; omega
  · show d < 65536; omega
  · show d < 2097152; omega
theorem bints_len {b : Array UInt8} {m x : Int} (_ : KBw.bInts b = writtenF m x) : 1 ≤ (writtenF m x).length ∧ (writtenF m x).length ≤ 4 := written_len m x
theorem codeF_cons {f : Nat} {c e k : Int} {l : List Int} : codeF (f + 1) c e (k :: l) = if 128 ≤ k ∧ k < 192 then codeF f (c * 64 + k % 64) e l else none := by
  unfold codeF
  simp only [runL]
  by_cases hh : 128 ≤ k ∧ k < 192
  · rw [if_pos hh, if_pos hh]
  · rw [if_neg hh, if_neg hh]
theorem codeF_nil {f : Nat} {c e : Int} : codeF (f + 1) c e [] = none := rfl
theorem drop_app3 (as w bs : List Int) : (as ++ w ++ bs).drop (((as.length : Nat) : Int) + 1).toNat = (w ++ bs).tail := by
  rw [List.append_assoc, drop_app]
theorem lead_bound {d : Int} (hs : SignOk d) : 0 ≤ (writtenF (manyF d) d).getD 0 0 - baseF (manyF d) ∧ (writtenF (manyF d) d).getD 0 0 - baseF (manyF d) < 256 := by
  rcases many_cases hs with ⟨h, h0, h1⟩ | ⟨h, h0, h1⟩ | ⟨h, h0, h1, _⟩ | ⟨h, h0, h1⟩
  · rw [W0 h, h]; show 0 ≤ d - 0 ∧ d - 0 < 256; omega
  · rw [W1 h, h]; show 0 ≤ 192 + d / 64 - 192 ∧ 192 + d / 64 - 192 < 256; omega
  · rw [W2 h, h]; show 0 ≤ 224 + d / 4096 - 224 ∧ 224 + d / 4096 - 224 < 256; omega
  · rw [W3 h, h]; show 0 ≤ 240 + d / 262144 - 240 ∧ 240 + d / 262144 - 240 < 256; omega
theorem code_A {d : Int} {as bs : List Int} (hs : SignOk d) :
    codeF (manyF d).toNat ((writtenF (manyF d) d).getD 0 0 - baseF (manyF d)) (leastF (manyF d)) ((as ++ writtenF (manyF d) d ++ bs).drop (((as.length : Nat) : Int) + 1).toNat) = some d := by
  rw [drop_app3]
  rcases many_cases hs with ⟨h, h0, h1⟩ | ⟨h, h0, h1⟩ | ⟨h, h0, h1, h2⟩ | ⟨h, h0, h1⟩
  · rw [W0 h, h]
    show codeF 0 (d - 0) 0 bs = some d
    rw [codeF_zero]; unfold finF; rw [if_neg (by omega)]; congr 1; omega
  · rw [W1 h, h]
    show codeF 1 (192 + d / 64 - 192) 128 ((128 + d % 64) :: bs) = some d
    rw [codeF_cons, if_pos (by omega), codeF_zero]; unfold finF; rw [if_neg (by omega)]; congr 1; omega
  · rw [W2 h, h]
    show codeF 2 (224 + d / 4096 - 224) 2048 ((128 + d / 64 % 64) :: (128 + d % 64) :: bs) = some d
    rw [codeF_cons, if_pos (by omega), codeF_cons, if_pos (by omega), codeF_zero]; unfold finF; rw [if_neg (by omega)]; congr 1; omega
  · rw [W3 h, h]
    show codeF 3 (240 + d / 262144 - 240) 65536 ((128 + d / 4096 % 64) :: (128 + d / 64 % 64) :: (128 + d % 64) :: bs) = some d
    rw [codeF_cons, if_pos (by omega), codeF_cons, if_pos (by omega), codeF_cons, if_pos (by omega), codeF_zero]; unfold finF; rw [if_neg (by omega)]; congr 1; omega
theorem code_C {d p : Int} {as : List Int} (hs : SignOk d) (h0 : 1 ≤ p) (h1 : p ≤ manyF d) :
    codeF (manyF d).toNat ((writtenF (manyF d) d).getD 0 0 - baseF (manyF d)) (leastF (manyF d)) ((as ++ (writtenF (manyF d) d).take p.toNat).drop (((as.length : Nat) : Int) + 1).toNat) = none := by
  rw [drop_app]
  unfold codeF
  rw [runL_short]
  rw [List.length_tail, List.length_take]
  omega
theorem runL_bad : ∀ (u : List Int) (f : Nat) (c o : Int) (v : List Int), ¬ (128 ≤ o ∧ o < 192) → u.length < f → runL f c (u ++ o :: v) = none
  | [], f + 1, c, o, v, ho, _ => by
    show runL (f + 1) c (o :: v) = none
    unfold runL
    rw [if_neg ho]
  | k :: u, f + 1, c, o, v, ho, h => by
    show runL (f + 1) c (k :: (u ++ o :: v)) = none
    unfold runL
    split
    · exact runL_bad u f _ o v ho (by simp only [List.length_cons] at h; omega)
    · rfl
  | [], 0, _, _, _, _, h => absurd h (Nat.not_lt_zero _)
  | _ :: _, 0, _, _, _, _, h => absurd h (Nat.not_lt_zero _)
theorem code_B {d p o : Int} {as v : List Int} (hs : SignOk d) (h0 : 1 ≤ p) (h1 : p ≤ manyF d) (ho : ¬ (128 ≤ o ∧ o < 192)) :
    codeF (manyF d).toNat ((writtenF (manyF d) d).getD 0 0 - baseF (manyF d)) (leastF (manyF d)) ((as ++ ((writtenF (manyF d) d).take p.toNat ++ o :: v)).drop (((as.length : Nat) : Int) + 1).toNat) = none := by
  rw [drop_app]
  have hlen : (writtenF (manyF d) d).length = (manyF d).toNat + 1 := by
    rcases many_cases hs with ⟨h, _⟩ | ⟨h, _⟩ | ⟨h, _⟩ | ⟨h, _⟩
    · rw [W0 h, h]; rfl
    · rw [W1 h, h]; rfl
    · rw [W2 h, h]; rfl
    · rw [W3 h, h]; rfl
  obtain ⟨k, u, hu⟩ : ∃ k u, (writtenF (manyF d) d).take p.toNat = k :: u := by
    cases e : (writtenF (manyF d) d).take p.toNat with
    | nil =>
      have := congrArg List.length e
      rw [List.length_take] at this
      simp only [List.length_nil] at this
      omega
    | cons k u => exact ⟨k, u, rfl⟩
  have hul : u.length + 1 = p.toNat := by
    have := congrArg List.length hu
    rw [List.length_take] at this
    simp only [List.length_cons] at this
    omega
  rw [hu]
  show codeF _ _ _ (u ++ o :: v) = none
  unfold codeF
  rw [runL_bad u _ _ o v ho (by omega)]
theorem clip_to {n : Nat} {p : Int} (h : 0 ≤ p) : clipAt n p = min p.toNat n := by
  obtain ⟨k, rfl⟩ := Int.eq_ofNat_of_zero_le h
  rw [clipAt_nat]
  omega
theorem take_clip {w : List Int} {p : Int} (h : 0 ≤ p) : w.take (clipAt w.length p) = w.take p.toNat := by
  rw [clip_to h]
  by_cases e : p.toNat ≤ w.length
  · rw [Nat.min_eq_left e]
  · rw [Nat.min_eq_right (by omega), List.take_of_length_le (Nat.le_refl _), List.take_of_length_le (by omega)]
theorem code_B2 {d p o : Int} {as v bs : List Int} (hs : SignOk d) (h0 : 1 ≤ p) (h1 : p ≤ manyF d) (ho : ¬ (128 ≤ o ∧ o < 192)) :
    codeF (manyF d).toNat ((writtenF (manyF d) d).getD 0 0 - baseF (manyF d)) (leastF (manyF d)) ((as ++ (writtenF (manyF d) d).take (clipAt (writtenF (manyF d) d).length p) ++ [o] ++ v ++ bs).drop (((as.length : Nat) : Int) + 1).toNat) = none := by
  rw [take_clip (by omega), List.append_assoc, List.append_assoc, List.append_assoc]
  exact code_B hs h0 h1 ho
theorem code_C2 {d p : Int} {as : List Int} (hs : SignOk d) (h0 : 1 ≤ p) (h1 : p ≤ manyF d) :
    codeF (manyF d).toNat ((writtenF (manyF d) d).getD 0 0 - baseF (manyF d)) (leastF (manyF d)) ((as ++ (writtenF (manyF d) d).take (clipAt (writtenF (manyF d) d).length p)).drop (((as.length : Nat) : Int) + 1).toNat) = none := by
  rw [take_clip (by omega)]
  exact code_C hs h0 h1
theorem len_C {p : Int} {as w : List Int} (h : 1 ≤ p) (hw : 1 ≤ w.length) : ((as.length : Nat) : Int) + 1 ≤ (as ++ w.take (clipAt w.length p)).length := by
  rw [take_clip (by omega), List.length_append, List.length_take]
  omega
theorem none_more {d : Int} (hs : SignOk d) (h : manyF d < 3) : isNoneF (manyF d + 1) d = true := by
  rcases many_cases hs with ⟨e, h0, h1⟩ | ⟨e, h0, h1⟩ | ⟨e, h0, h1, h2⟩ | ⟨e, h0, h1⟩
  · rw [e]
    show (match leadF (192 + d / 64) with | none => true | some (f, c, e) => (codeF f.toNat c e [128 + d % 64]).isNone) = true
    rw [leadF_n (by omega)]
  · rw [e]
    show (match leadF (224 + d / 4096) with | none => true | some (f, c, e) => (codeF f.toNat c e [128 + d / 64 % 64, 128 + d % 64]).isNone) = true
    rw [leadF_2 (by omega) (by omega)]
    show (codeF 2 (224 + d / 4096 - 224) 2048 [128 + d / 64 % 64, 128 + d % 64]).isNone = true
    rw [codeF_cons, if_pos (by omega), codeF_cons, if_pos (by omega), codeF_zero]; unfold finF; rw [if_pos (by omega)]; rfl
  · rw [e]
    show (match leadF (240 + d / 262144) with | none => true | some (f, c, e) => (codeF f.toNat c e [128 + d / 4096 % 64, 128 + d / 64 % 64, 128 + d % 64]).isNone) = true
    rw [leadF_3 (by omega) (by omega)]
    show (codeF 3 (240 + d / 262144 - 240) 65536 [128 + d / 4096 % 64, 128 + d / 64 % 64, 128 + d % 64]).isNone = true
    rw [codeF_cons, if_pos (by omega), codeF_cons, if_pos (by omega), codeF_cons, if_pos (by omega), codeF_zero]; unfold finF; rw [if_pos (by omega)]; rfl
  · omega
theorem none_half {d : Int} (h0 : 55296 ≤ d) (h1 : d < 57344) : isNoneF 2 d = true := by
  show (match leadF (224 + d / 4096) with | none => true | some (f, c, e) => (codeF f.toNat c e [128 + d / 64 % 64, 128 + d % 64]).isNone) = true
  rw [leadF_2 (by omega) (by omega)]
  show (codeF 2 (224 + d / 4096 - 224) 2048 [128 + d / 64 % 64, 128 + d % 64]).isNone = true
  rw [codeF_cons, if_pos (by omega), codeF_cons, if_pos (by omega), codeF_zero]; unfold finF; rw [if_pos (by omega)]; rfl
theorem menu_out {o t : Int} (h : o ∈ [0, 127, 192, 255, t]) (h0 : 0 ≤ t) (h1 : t < 128) : 0 ≤ o ∧ o < 256 ∧ ¬ (128 ≤ o ∧ o < 192) := by
  simp only [List.mem_cons, List.not_mem_nil, or_false] at h
  omega
theorem top_more {d : Int} (hs : SignOk d) (h : manyF d < 3) : d < topF (manyF d + 1) := by
  rcases many_cases hs with ⟨e, h0, h1⟩ | ⟨e, h0, h1⟩ | ⟨e, h0, h1, h2⟩ | ⟨e, h0, h1⟩
  · rw [e]; show d < 2048; omega
  · rw [e]; show d < 65536; omega
  · rw [e]; show d < 2097152; omega
  · omega
theorem top_half {d : Int} (h : d < 57344) : d < topF 2 := by show d < 65536; omega
theorem top_beyond {d : Int} (h : d < 2097152) : d < topF 3 := h
theorem none_beyond {d : Int} (h0 : 1114112 ≤ d) (h1 : d < 2097152) : isNoneF 3 d = true := by
  show (match leadF (240 + d / 262144) with | none => true | some (f, c, e) => (codeF f.toNat c e [128 + d / 4096 % 64, 128 + d / 64 % 64, 128 + d % 64]).isNone) = true
  by_cases h : 240 + d / 262144 < 245
  · rw [leadF_3 (by omega) (by omega)]
    show (codeF 3 (240 + d / 262144 - 240) 65536 [128 + d / 4096 % 64, 128 + d / 64 % 64, 128 + d % 64]).isNone = true
    rw [codeF_cons, if_pos (by omega), codeF_cons, if_pos (by omega), codeF_cons, if_pos (by omega), codeF_zero]; unfold finF; rw [if_pos (by omega)]; rfl
  · rw [leadF_n (by omega)]
end
section
section
local macro_rules | `(tactic| walk_at "eval ListComp") => `(tactic| (k_here; k_dflt (refine LCg.ListComp_U (by k_asm) (by with_unfolding_all rfl) (by decide) (by rfl) (by decide) (by rfl) ?_)))
local macro_rules | `(tactic| walk_at "CompSrc") => `(tactic| (k_here; k_dflt (refine LCg.CompSrc.range (by rfl) (by k_asm) (by k_asm) (by assumption) (small_one (by omega) (by omega) (by omega) (by omega)) (rangeSize_nat _ _) (by rw [sizeLine_eq]; omega) ?_; intro g9; refine takes_rest (M := 3) (fun a9 ta9 b9 tb9 ys9 I' oI' C' oC' D' m' h' tk' E' v9 hs9 hC' hx' F' N' off' ne' => ?_) (fun ys9 ns9 a9 ta9 b9 tb9 hi9 hr9 hn9 hs9 => ?_) _ _ _ [] _ _ _ _ IntsAre.nil (by simp) (by simp only [List.length_nil]; omega) (by with_reducible assumption)); all_goals (try simp only [LCg.Off3, and_true] at off')))
local macro_rules | `(tactic| walk_at "CompEnd") => `(tactic| (k_dflt (refine compEnd_same (by k_asm) (by first | k_asm | exact un3 (by k_asm)) (by first | assumption | (simp only [LCg.Off3, and_true]; assumption)) trivial ⟨_, _, _, _, _, _, rfl, by with_reducible assumption, by with_reducible assumption, rfl, by with_reducible assumption⟩)))
local macro_rules | `(tactic| walk_at "call type:bytes") => `(tactic| (k_here; (with_reducible show wpAny _ _ (call (Value.type _) [Value.ref _]) _ _ _); k_dflt (refine' bytes_top ?F ?N ?h ?i ?r ?z ?_; (case F => k_asm); (case N => k_asm); (case h => rfl); (case i => first | with_reducible assumption | exact IntsAre.cons _ _ IntsAre.nil); (case r => first | with_reducible assumption | (intro z hz; rw [List.mem_singleton.mp hz]; omega)); (case z => first | omega | exact Nat.le_of_ble_eq_true rfl); k_whole); intro _ _ _ b' F' N' hb'))
local macro_rules | `(tactic| walk_at "call ref") => `(tactic| (k_here; (with_reducible show wpAny _ _ (call (Value.ref 42) _) _ _ _); k_dflt (refine' Ct.use (take_c _ _ _ _ _ _ _ _ _ ?hR ?hs ?h0 ?h1) ?k4 ?_; (case k4 => first | (with_reducible assumption) | (refine' sw1 ?n9; (case n9 => with_reducible assumption)) | (refine' sw2 ?n9; (case n9 => with_reducible assumption)) | (refine' sw3 ?n9; (case n9 => with_reducible assumption)) | (refine' sw4 ?n9; (case n9 => with_reducible assumption)) | (refine' sw5 ?n9; (case n9 => with_reducible assumption))); (case hs => with_reducible assumption); (case hR => k_all); (case h0 => omega); (case h1 => omega); k_whole); intro r9 nw9 h' tk9 F' N' ho9; obtain ⟨d9, td9, a9, ta9, b9, tb9, hr9, hd0, hd1, hn9, hs9⟩ := ho9; subst hr9; subst hn9; (try k_sweep); (try dsimp only); (try k_fold)))
local macro_rules | `(tactic| walk_at "call ref") => `(tactic| (k_here; (with_reducible show wpAny _ _ (call (Value.ref 56) _) _ _ _); k_dflt (refine' Ct.use (sign_c _ _ _ _ _ _ _ ?hR ?hs) ?k4 ?_; (case k4 => first | (with_reducible assumption) | (refine' sw1 ?n9; (case n9 => with_reducible assumption)) | (refine' sw2 ?n9; (case n9 => with_reducible assumption)) | (refine' sw3 ?n9; (case n9 => with_reducible assumption)) | (refine' sw4 ?n9; (case n9 => with_reducible assumption)) | (refine' sw5 ?n9; (case n9 => with_reducible assumption))); (case hs => with_reducible assumption); (case hR => k_all); k_whole); intro r9 nw9 h' tk9 F' N' ho9; obtain ⟨d9, td9, a9, ta9, b9, tb9, hr9, hd9, hn9, hs9⟩ := ho9; subst hr9; subst hn9; (try k_sweep); (try dsimp only); (try k_fold)))
local macro_rules | `(tactic| walk_at "call ref") => `(tactic| (k_here; (with_reducible show wpAny _ _ (call (Value.ref 61) _) _ _ _); k_dflt (refine' Ct.use (many_c _ _ _) ?k4 ?_; (case k4 => with_reducible assumption); k_whole); intro r9 nw9 h' tk9 F' N' ho9; obtain ⟨td9, hr9, hn9⟩ := ho9; subst hr9; subst hn9; (have hm9 := many_ok (by with_reducible assumption)); (try k_sweep); (try dsimp only); (try k_fold)))
local macro_rules | `(tactic| walk_at "call ref") => `(tactic| (k_here; (with_reducible show wpAny _ _ (call (Value.ref 68) _) _ _ _); k_dflt (refine' Ct.use (written_c _ _ _ _ _ _ _ _ _ _ ?hm ?h0 ?h1) ?k4 ?_; (case k4 => with_reducible assumption); (case hm => exact (many_ok (by with_reducible assumption)).1); (case h0 => exact (many_ok (by with_reducible assumption)).2.1); (case h1 => exact (many_ok (by with_reducible assumption)).2.2); k_whole); intro r9 nw9 h' tk9 F' N' ho9; obtain ⟨b9, tb9, hr9, hb9, hn9⟩ := ho9; subst hr9; subst hn9; (have hwl9 := bints_len hb9); (try k_sweep); (try dsimp only); (try k_fold)))
local macro_rules | `(tactic| walk_at "call ref") => `(tactic| (k_here; (with_reducible show wpAny _ _ (call (Value.ref 21) _) _ _ _); k_dflt (refine' Ct.use (lead_of_c _ _ _ ?h0 ?h1) ?k4 ?_; (case k4 => with_reducible assumption); (case h0 => first | with_reducible assumption | omega); (case h1 => first | with_reducible assumption | omega); k_whole); intro r9 nw9 h' tk9 F' N' ho9; rw [lead_ok (by with_reducible assumption)] at ho9; obtain ⟨x9, ob9, hr9, hn9, ht9, hl9⟩ := ho9; subst hr9; subst hn9; (try simp only [AllLt, and_true] at hl9); obtain ⟨tA9, tB9, tC9, nA9, hob9⟩ := ht9; subst hob9; (try k_sweep); (try dsimp only); (try k_fold)))
local macro_rules | `(tactic| walk_at "call ref") => `(tactic| (k_here; (with_reducible show wpAny _ _ (call (Value.ref 75) _) _ _ _); k_dflt (refine' Ct.use (law_lead_c _ _ _ _ _ _ ?hm ?hb ?hk0 ?hk1) ?k4 ?_; (case k4 => with_reducible assumption); (case hb => kba_ints); (case hm => exact (many_ok (by with_reducible assumption)).1); (case hk0 => omega); (case hk1 => omega); k_whole); intro r9 nw9 h' tk9 F' N' ho9; obtain ⟨x9, ob9, hr9, hn9, ht9, hl9⟩ := ho9; subst hr9; subst hn9; (try simp only [AllLt, and_true] at hl9); obtain ⟨tA9, tB9, tC9, nA9, hob9⟩ := ht9; subst hob9; (try k_sweep); (try dsimp only); (try k_fold)))
local macro_rules | `(tactic| walk_at "call ref") => `(tactic| (k_here; (with_reducible show wpAny _ _ (call (Value.ref 28) _) _ _ _); k_dflt (refine' Ct.use (code_c _ _ _ _ _ _ _ _ _ _ _ _ _ _ _ _ ?hb ?ha ?ha' ?hk ?hf ?hc ?hc' ?hob) ?k4 ?_; (case k4 => first | with_reducible assumption | exact df2 (by with_reducible assumption) | exact pB (by with_reducible assumption)); (case hob => exact tupIs_mk rfl); (case hb => kba_ints); (case ha => omega); (case ha' => first | exact len_C (by omega) (by omega) | ((try simp only [List.length_append, List.length_cons, List.length_nil]); omega)); (case hk => ((try simp only [List.length_append, List.length_take, List.length_drop, List.length_cons, List.length_nil]); omega)); (case hf => exact (many_ok (by with_reducible assumption)).1); (case hc => exact (lead_bound (by with_reducible assumption)).1); (case hc' => exact (lead_bound (by with_reducible assumption)).2); k_whole); intro r9 nw9 h' tk9 F' N' ho9; (first | rw [code_A (by with_reducible assumption)] at ho9 | rw [code_C2 (by with_reducible assumption) (by omega) (by omega)] at ho9 | rw [code_B2 (by with_reducible assumption) (by omega) (by omega) (by omega)] at ho9); unfold CodeOut at ho9; obtain ⟨hn9, ho9⟩ := ho9; subst hn9; (first | (obtain ⟨t9, hr9⟩ := ho9; subst hr9) | (have hr9 := ho9; subst hr9)); (try k_sweep); (try dsimp only); (try k_fold)))
local macro_rules | `(tactic| walk_at "call ref") => `(tactic| (k_here; (with_reducible show wpAny _ _ (call (Value.ref 49) _) _ _ _); k_dflt (refine' Ct.use (one_c _ _ _ _ _ _ _ _ _ _ _ ?hR ?hs ?hth ?hi ?h0 ?h1) ?k4 ?_; (case k4 => first | (with_reducible assumption) | (refine' sw1 ?n9; (case n9 => with_reducible assumption)) | (refine' sw2 ?n9; (case n9 => with_reducible assumption)) | (refine' sw3 ?n9; (case n9 => with_reducible assumption)) | (refine' sw4 ?n9; (case n9 => with_reducible assumption)) | (refine' sw5 ?n9; (case n9 => with_reducible assumption))); (case hs => with_reducible assumption); (case hth => k_mem); (case hR => k_all); (case hi => first | l_ints | (repeat' (first | exact IntsAre.nil | refine' IntsAre.cons _ _ ?_))); (case h0 => first | exact Nat.le_of_ble_eq_true rfl | omega); (case h1 => first | exact Nat.le_of_ble_eq_true rfl | omega); k_whole); intro r9 nw9 h' tk9 F' N' ho9; obtain ⟨d9, td9, a9, ta9, b9, tb9, hr9, hd9, hn9, hs9⟩ := ho9; subst hr9; subst hn9; (have hx9 := menu_out hd9 (by with_reducible assumption) (by with_reducible assumption)); (try k_sweep); (try dsimp only); (try k_fold)))
local macro_rules | `(tactic| walk_at "call ref") => `(tactic| (k_here; (with_reducible show wpAny _ _ (call (Value.ref 82) _) _ _ _); k_dflt (refine' Ct.use (is_none_c _ _ _ _ _ _ _ _ _ _ _ _ _ ?hm ?h0 ?h1 ?hba ?has) ?k4 ?_; (case k4 => first | with_reducible assumption | exact df1 (by with_reducible assumption) | exact df2 (by with_reducible assumption)); (case hm => omega); (case h0 => omega); (case h1 => first | exact top_more (by with_reducible assumption) (by omega) | exact top_half (by omega) | exact top_beyond (by omega)); (case hba => kba_ints); (case has => omega); k_whole); intro r9 nw9 h' tk9 F' N' ho9; obtain ⟨hr9, hn9⟩ := ho9; (first | rw [none_more (by with_reducible assumption) (by omega)] at hr9 | rw [none_half (by omega) (by omega)] at hr9 | rw [none_beyond (by omega) (by omega)] at hr9); subst hr9; subst hn9; (try k_sweep); (try dsimp only); (try k_fold)))
theorem right_c (l : Addr) (n : Nat) (a : Int) (ta : Tok) (b : Int) (tb : Tok) (d3 : Addr) (o3 : Obj) (hne : d3 ≠ l) (hs : SrcOk a b) :
    Ct PySem.Challenge.rw_xm0739_01 hd.heap_39 5 87 [Src l n a ta b tb, (d3, o3)] [.ref l] (fun r nw => r = .bool true ∧ nw = [(d3, o3)]) := by
  k_fill
  unfold Ct
  intro w mean mg mb dp un gd cn cs aa ccd cl outer A₀ base h₀ L m s Q E B F X N T hk hd hu hret
  refine wpAny_call ?_
  k_dflt (refine' code_defC ?k1 ?k2 ?k3 ?k4 ?k5 ?kA ?kF ?kK ?k6 ?k7 ?k8 ?k9 ?kB ?kD ?_ ?c2 ?c3 ?c4; (case kA => exact rfl); (case kF => exact rfl); (case kK => assumption); (case k1 => k_asm); (case k2 => k_asm); (case k3 => k_asm); (case k4 => k_asm); (case k5 => k_asm); (case k6 => k_is); (case k7 => k_is); (case k8 => ktr_room); (case k9 => exact BindsTo.of_eq rfl); (case kB => exact rfl); (case kD => decide +kernel); (case c2 => exact rfl); (case c3 => exact rfl); (case c4 => exact rfl); k_whole; intro g' L' h' tk' cells' FG' F' N' Y' B' X' T' l1; (try k_lt l1); k_cells Y'; (try simp only [List.cons_append, List.nil_append] at N'); (try dsimp only); (try k_lift B'); (try k_fold))
  k_steps
  · exact absurd rfl (by assumption)
  all_goals (refine hret _ [(d3, o3)] _ _ (by assumption) (by first | exact df2 (by assumption) | (refine' cb_drop ?cbN ?cbS; (case cbN => assumption); (case cbS => kcj_all))) ⟨rfl, rfl⟩)
end
end
section
def CtS (l : OpenLaw) (K : Params → Frag) (k : Nat) (f : Addr) (news : Led) (vs : List Value) (sl : Addr) (xs : List Value) (ns : List Int) (Out : Value → Led → Prop) : Prop :=
  ∀ (w : World) (mean : ExcName → Option Value) (mg mb : Str → Option Value) (dp un : Nat) (gd : Option (List Code)) (cn : Str) (cs : Scope) (a : Addr) (ccd : Value) (cl : List (Str × Addr)) (outer : List Env) (A₀ : Around) (base h₀ : Heap) (L : Addr) (m : Str → Option Value) (s : Shared) (Q E : Value → Shared → Prop),
    Below A₀ base outer h₀ → Fr h₀ L s.heap m → (K w.params).In h₀ → News h₀ L s.heap news → Top hd.view_39 (looseW hd.view_39 []) mean mg mb h₀ → cs.kind = .function → dp + k < recursionLimit → un + 100 * k < cLine →
    base.IsList sl xs.toArray → IntsAre xs ns → ns.length ≤ 63 →
    (∀ r news' h' tk', Fr h₀ L h' m → News h₀ L h' news' → Out r news' → Q r { s with heap := h', toks := tk' }) →
    wpAny (model l.row.prog w) (ktrTop dp un gd cn cs L a ccd cl outer) (call (.ref f) vs) Q E s
theorem CtS.use {l : OpenLaw} {K : Params → Frag} {k : Nat} {f : Addr} {news : Led} {vs : List Value} {sl : Addr} {xs : List Value} {ns : List Int} {Out : Value → Led → Prop} (C : CtS l K k f news vs sl xs ns Out)
    {w : World} {mean : ExcName → Option Value} {mg mb : Str → Option Value} {dp un : Nat} {gd : Option (List Code)} {cn : Str} {cs : Scope} {a : Addr} {ccd : Value} {cl : List (Str × Addr)} {outer : List Env} {A₀ : Around} {base h₀ : Heap} {L : Addr} {m : Str → Option Value} {s : Shared} {Q E : Value → Shared → Prop}
    (N : News h₀ L s.heap news) (hl : base.IsList sl xs.toArray) (hi : IntsAre xs ns) (hn : ns.length ≤ 63)
    (ret : ∀ r news' h' tk', Fr h₀ L h' m → News h₀ L h' news' → Out r news' → Q r { s with heap := h', toks := tk' })
    (B : Below A₀ base outer h₀ := by k_asm) (F : Fr h₀ L s.heap m := by k_asm) (X : (K w.params).In h₀ := by k_asm) (T : Top hd.view_39 (looseW hd.view_39 []) mean mg mb h₀ := by k_asm) (hk : cs.kind = .function := by exact rfl) (hd : dp + k < recursionLimit := by ktr_room) (hu : un + 100 * k < cLine := by ktr_units) :
    wpAny (model l.row.prog w) (ktrTop dp un gd cn cs L a ccd cl outer) (call (.ref f) vs) Q E s := C _ _ _ _ _ _ _ _ _ _ _ _ _ _ _ _ _ _ _ _ _ B F X N T hk hd hu hl hi hn ret
section
theorem pool_c (sl : Addr) (xs : List Value) (ns : List Int) (k : Int) (tk : Tok) (R : Led) (hk0 : 0 ≤ k) (hk1 : k < 3) :
    CtS PySem.Challenge.rw_xm0739_01 hd.heap_39 1 35 R [.ref sl, .int k tk] sl xs ns (fun r nw => ∃ l' n a ta b tb, r = .ref l' ∧ nw = Src l' n a ta b tb :: R ∧ SrcOk a b ∧ AllLt l' R) := by
  k_fill
  unfold CtS
  intro w mean mg mb dp un gd cn cs aa ccd cl outer A₀ base h₀ L m s Q E B F X N T hk hd hu hl hi hn hret
  refine wpAny_call ?_
  k_dflt cell_enter
  k_steps
  all_goals (refine hret _ _ _ _ (by assumption) (by assumption) ⟨_, _, _, _, _, _, rfl, rfl, ⟨?_, ?_, ?_⟩, by first | assumption | exact allLt_of (by assumption)⟩)
  all_goals first | exact Int.fmod_nonneg_of_pos _ (by decide) | exact Int.fmod_lt_of_pos _ (by decide) | (refine Int.mul_nonneg ?_ ?_ <;> split <;> omega)
end
end
section
section
variable {h₀ h : Heap} {L : Addr} {x1 x2 : Addr × Obj} {r : Led}
theorem dupT (N : News h₀ L h (x1 :: r)) : News h₀ L h [x1, x1, x1, x1] := fun p hp => N p (by simp only [List.mem_cons, List.not_mem_nil, or_false, or_self] at hp ⊢; simp only [hp, true_or])
end
theorem code_g1 : codeF (Int.toNat 2) 0 2048 (List.drop (Int.toNat 1) [224, 128, 128]) = none := by decide +kernel
theorem code_g2 : codeF (Int.toNat 2) 0 2048 (List.drop (Int.toNat 1) [224, 160, 128]) = some 2048 := by decide +kernel
theorem leadF_isNone {o : Int} (h : leadF o = none) : 128 ≤ o ∧ o < 194 ∨ 244 < o := by
  unfold leadF at h
  (repeat' split at h) <;> (simp only [reduceCtorEq] at h) <;> omega
theorem leadF_isSome {o f c e : Int} (h : leadF o = some (f, c, e)) : ¬ (128 ≤ o ∧ o < 194) ∧ ¬ 244 < o := by
  unfold leadF at h
  (repeat' split at h) <;> (simp only [Option.some.injEq, Prod.mk.injEq, reduceCtorEq] at h) <;> omega
section
variable {prog : Program} {w : World} {A : Around} {E : Value → Shared → Prop} {s : Shared} {Q : Value → Shared → Prop}
theorem ne_ft {p : Prop} [Decidable p] (h : Q (.bool (decide p)) s) : wpAny (model prog w) A (compareOp .NotEq (.bool false) (.bool (decide p))) Q E s := ne_bool (by
  have e : (false != decide p) = decide p := by cases decide p <;> rfl
  rw [e]
  exact h)
theorem ne_tt {p : Prop} [Decidable p] (h : Q (.bool (decide (¬ p))) s) : wpAny (model prog w) A (compareOp .NotEq (.bool true) (.bool (decide p))) Q E s := ne_bool (by
  have e : (true != decide p) = decide (¬ p) := by by_cases hp : p <;> simp [hp]
  rw [e]
  exact h)
end
section
open PyProof.Rows.LCg PyProof.Rows.LCt
variable {prog : Program} {w : World} {A : Around} {s : Shared} {h₀ : Heap} {L : Addr} {m : Str → Option Value} {env : Env}
theorem none_rest {ct elt : Expr} {x : Str} {scope : Scope} {cl : List (Str × Addr)} {Fin : List Value → Led → Prop} {n : Nat}
    (turn : ∀ (k : Int) (t : Tok) (I : Addr) (oI : Obj) (C : Addr) (oC : Obj) (D : Addr) (m₂ : Str → Option Value) (h : Heap) (tk : Nat) (E' : Value → Shared → Prop), 0 ≤ k → k < (n : Int) → NsObj oC m₂ → m₂ x = some (.int k t) → Fr h₀ L h m → News h₀ L h [(I, oI), (C, oC), (D, lst [])] → ((@Ne Nat I C) ∧ (@Ne Nat I D) ∧ (@Ne Nat C D)) →
      wpAny (model prog w) A (isTrue ct (compEnvC scope cl C env) (eval ct (compEnvC scope cl C env))) (fun ok s' => ok = false ∧ ∃ h' tk', s' = { s with heap := h', toks := tk' } ∧ Fr h₀ L h' m ∧ News h₀ L h' [(I, oI), (C, oC), (D, lst [])]) E' { s with heap := h, toks := tk })
    (fin : Fin [] []) : ∀ (k i : Nat), i + k = n → CompRestT prog w A h₀ L m env ct elt x scope cl s (fun _ => True) (fun i v => ∃ t, v = .int (0 + (i : Int)) t) Fin k i [] [] := by
  intro k
  induction k with
  | zero => intro i _; exact fin
  | succ k ih =>
    intro i hi
    refine CompRestT.succ ?_
    intro v I oI C oC D m₂ h tk E' hv hC hx F N off ne
    obtain ⟨t, rfl⟩ := hv
    refine wpAny_mono (turn _ t I oI C oC D m₂ h tk E' (by omega) (by omega) hC hx F N ne) (fun ok s₂ hq => ?_) fun _ _ e => e
    obtain ⟨rfl, h', tk', rfl, F', N'⟩ := hq
    simp only [Bool.false_eq_true, if_false]
    exact ⟨h', tk', [], rfl, F', N', trivial, trivial, ih (i + 1) (by omega)⟩
end
section
local macro_rules | `(tactic| walk_at "call type:bytes") => `(tactic| (k_here; (with_reducible show wpAny _ _ (call (Value.type _) [Value.ref _]) _ _ _); k_dflt (refine' bytes_top ?F ?N ?h ?i ?r ?z ?_; (case F => k_asm); (case N => k_asm); (case h => rfl); (case i => repeat' (first | exact IntsAre.nil | refine' IntsAre.cons _ _ ?_)); (case r => (intro z hz; simp only [List.mem_cons, List.not_mem_nil, or_false] at hz; omega)); (case z => exact Nat.le_of_ble_eq_true rfl); k_whole); intro _ _ _ b' F' N' hb'))
local macro_rules | `(tactic| walk_at "eval ListComp") => `(tactic| (k_here; k_dflt (refine LCt.ListComp_T (F₀ := by k_asm) (by with_unfolding_all rfl) (by decide) (by rfl) (by decide) (by rfl) ?_)))
local macro_rules | `(tactic| walk_at "CompSrcT") => `(tactic| (k_here; k_dflt (refine LCt.CompSrcT.range (n := 256) (by rfl) (by k_asm) News.nil (by assumption) (by decide) (by decide) (by rw [sizeLine_eq]; decide) ?_; intro g9; refine none_rest (n := 256) (fun k9 t9 I' oI' C' oC' D' m' h' tk' E' hk0 hk1 hC' hx' F' N' ne' => ?_) ?_ 256 0 rfl)))
local macro_rules | `(tactic| walk_at "compareOp NotEq bool bool") => `(tactic| first | (refine ne_ft ?_) | (refine ne_tt ?_))
local macro_rules | `(tactic| walk_at "call ref") => `(tactic| (k_here; (with_reducible show wpAny _ _ (call (Value.ref 28) _) _ _ _); k_dflt (refine' Ct.use (code_c _ _ _ _ _ _ _ _ _ _ _ _ _ _ _ _ ?hb ?ha ?ha' ?hk ?hf ?hc ?hc' ?hob) ?k4 ?_; (case k4 => exact dupT (by with_reducible assumption)); (case hob => exact tupIs_mk rfl); (case hb => kba_ints); (case ha => decide); (case ha' => exact Int.le_of_lt_add_one (by decide)); (case hk => exact Nat.le_of_ble_eq_true rfl); (case hf => decide); (case hc => decide); (case hc' => decide); k_whole); intro r9 nw9 h' tk9 F' N' ho9; (first | rw [code_g1] at ho9 | rw [code_g2] at ho9); unfold CodeOut at ho9; obtain ⟨hn9, ho9⟩ := ho9; subst hn9; (first | (obtain ⟨t9, hr9⟩ := ho9; subst hr9) | (have hr9 := ho9; subst hr9)); (try k_sweep); (try dsimp only); (try k_fold)))
local macro_rules | `(tactic| walk_at "call ref") => `(tactic| (k_here; (with_reducible show wpAny _ _ (call (Value.ref 21) _) _ _ _); k_dflt (refine' Ct.use (lead_of_c _ _ _ ?h0 ?h1) ?k4 ?_; (case k4 => with_reducible assumption); (case h0 => first | with_reducible assumption | omega); (case h1 => first | with_reducible assumption | omega); k_whole); intro r9 nw9 h' tk9 F' N' ho9; unfold LeadOut at ho9; split at ho9; all_goals (first | (obtain ⟨x9, ob9, hr9, hn9, ht9, hl9⟩ := ho9; subst hr9; subst hn9; (have hf9 := leadF_isSome (by with_reducible assumption))) | (obtain ⟨hr9, hn9⟩ := ho9; subst hr9; subst hn9; (have hf9 := leadF_isNone (by with_reducible assumption)))); all_goals ((try k_sweep); (try dsimp only); (try k_fold))))
local macro_rules | `(tactic| walk_at "call ref") => `(tactic| (k_here; (with_reducible show wpAny _ _ (call (Value.ref 35) _) _ _ _); k_dflt (refine' CtS.use (pool_c _ _ _ _ _ _ ?h0 ?h1) ?k4 ?hl ?hi ?hn ?_; (case k4 => k_asm); (case h0 => omega); (case h1 => omega); (case hl => k_asm); (case hi => with_reducible assumption); (case hn => omega); k_whole); intro r9 nw9 h' tk9 F' N' ho9; obtain ⟨l9, n9, a9, ta9, b9, tb9, hr9, hn9, hs9, hl9⟩ := ho9; subst hr9; subst hn9; (try simp only [AllLt, and_true] at hl9); (try k_sweep); (try dsimp only); (try k_fold)))
local macro_rules | `(tactic| walk_at "call ref") => `(tactic| (k_here; (with_reducible show wpAny _ _ (call (Value.ref 87) _) _ _ _); k_dflt (refine' Ct.use (right_c _ _ _ _ _ _ _ _ ?hne ?hs) ?k4 ?_; (case k4 => first | k_asm | exact ft2 (by k_asm)); (case hne => k_ne); (case hs => with_reducible assumption); k_whole); intro r9 nw9 h' tk9 F' N' ho9; obtain ⟨hr9, hn9⟩ := ho9; subst hr9; subst hn9; (try k_sweep); (try dsimp only); (try k_fold)))
theorem holds : PySem.Challenge.rw_xm0739_01.Holds := Mine.hd (by
  k_go0
  (try ((with_reducible rename Heap.CodeRec _ _ _ => hx1); clear hx1))
  (try ((with_reducible rename Dflts _ _ _ _ _ _ => hx1); clear hx1))
  all_goals (try k_fold)
  k_steps
  all_goals first | exact decide_eq_false (by omega) | assumption | exact df1 (by assumption))
end
end
end Mine
theorem PySem.Challenge.cw_xm0739_01_holds : PySem.Challenge.rw_xm0739_01.Holds :=
  Mine.holds
