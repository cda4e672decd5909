import PyProof.Rows.All
import Wide.All
import OpenK.AllK
import Wide.FinOn
import PySem.Challenge.RW_xw0197_01
open PySem PySem.W PySem.Calls PyProof.Rows
set_option Elab.async false
set_option maxRecDepth 100000
set_option maxHeartbeats 8000000
namespace Mine
open_top hd for PySem.Challenge.rw_xw0197_01
end Mine
namespace Mine
abbrev srcObj (x y : Int) (tx ty : Tok) (n : Nat) : Obj := listOf [Value.int x tx, Value.int y ty].toArray n
structure Inv (x y : Int) : Prop where
  x0 : 0 ≤ x
  y0 : 0 ≤ y
  y1 : y < 2147483647

section
variable {prog : Program} {w : World} {A : Around} {E : Value → Shared → Prop} {s : Shared} {h₀ : Heap} {L l : Addr} {m : Str → Option Value} {news : List (Addr × Obj)} {x y v : Int} {tx ty tv t : Tok} {n : Nat}
theorem src_list (N : News h₀ L s.heap ((l, srcObj x y tx ty n) :: news)) : s.heap.IsList l [Value.int x tx, Value.int y ty].toArray :=
  PySem.IsL.isList (n := n) (N _ (.head _)).1
theorem src_get0 {value slice : PySem.Expr} {Q : Value → Shared → Prop} (N : News h₀ L s.heap ((l, srcObj x y tx ty n) :: news)) (h : Q (.int x tx) s)
    (hs : subscripted slice false (.ref l) (.int 0 t) = operate [.ref l, .int 0 t] (getItem (.ref l) (.int 0 t)) := by with_unfolding_all rfl) :
    wpAny (model prog w) A (subscriptTail value slice (.ref l) (.int 0 t)) Q E s :=
  tail_any (src_list N).typeIs slot_list_getitem.lookup (wpAny_getItem_list (src_list N) (by decide) (by decide) rfl h) hs
theorem src_get1 {value slice : PySem.Expr} {Q : Value → Shared → Prop} (N : News h₀ L s.heap ((l, srcObj x y tx ty n) :: news)) (h : Q (.int y ty) s)
    (hs : subscripted slice false (.ref l) (.int 1 t) = operate [.ref l, .int 1 t] (getItem (.ref l) (.int 1 t)) := by with_unfolding_all rfl) :
    wpAny (model prog w) A (subscriptTail value slice (.ref l) (.int 1 t)) Q E s :=
  tail_any (src_list N).typeIs slot_list_getitem.lookup (wpAny_getItem_list (src_list N) (by decide) (by decide) rfl h) hs
theorem src_set0 {Q : Unit → Shared → Prop} (F : Fr h₀ L s.heap m) (N : News h₀ L s.heap ((l, srcObj x y tx ty n) :: news)) (hne : ∀ p ∈ news, p.1 ≠ l)
    (h : ∀ h', Fr h₀ L h' m → News h₀ L h' ((l, srcObj v y tv ty n) :: news) → Q () { s with heap := h' }) :
    wpAny (model prog w) A (setItem (.ref l) (.int 0 t) (.int v tv)) Q E s := by
  have z := N _ (.head _)
  refine ki_setAt z.1 (by decide) (by decide) (by simp) (h _ (F.change (Heap.SameBut.update ..) z.2.1 z.2.2) ?_)
  exact ki_turn (pre := []) _ N (fun _ hp => nomatch hp) hne rfl rfl
theorem src_set1 {Q : Unit → Shared → Prop} (F : Fr h₀ L s.heap m) (N : News h₀ L s.heap ((l, srcObj x y tx ty n) :: news)) (hne : ∀ p ∈ news, p.1 ≠ l)
    (h : ∀ h', Fr h₀ L h' m → News h₀ L h' ((l, srcObj x v tx tv n) :: news) → Q () { s with heap := h' }) :
    wpAny (model prog w) A (setItem (.ref l) (.int 1 t) (.int v tv)) Q E s := by
  have z := N _ (.head _)
  refine ki_setAt z.1 (by decide) (by decide) (by simp) (h _ (F.change (Heap.SameBut.update ..) z.2.1 z.2.2) ?_)
  exact ki_turn (pre := []) _ N (fun _ hp => nomatch hp) hne rfl rfl
end

/-- what a call of f with the source at l (and pre beside it) keeps and gives -/
def Ct (prog : Program) (w : World) (K : Frag) (p : Program) (loose : List Str) (mean : ExcName → Option Value) (mg mb : Str → Option Value) (f : Addr) (k : Nat) (pre : List (Addr × Obj)) (vs : Addr → List Value) (R : Value → Prop) : Prop :=
  ∀ (dp un : Nat) (gd : Option (List Code)) (cn : Str) (cs : Scope) (a : Addr) (ccd : Value) (cl : List (Str × Addr)) (outer : List Env) (A₀ : Around) (base h₀ : Heap) (L : Addr) (m : Str → Option Value) (s : Shared) (Q E : Value → Shared → Prop)
    (l : Addr) (x y : Int) (tx ty : Tok) (n : Nat) (news : List (Addr × Obj)),
    Below A₀ base outer h₀ → Fr h₀ L s.heap m → K.In h₀ → News h₀ L s.heap (pre ++ (l, srcObj x y tx ty n) :: news) → (∀ p ∈ pre, p.1 ≠ l) → (∀ p ∈ news, p.1 ≠ l) → Top p loose mean mg mb h₀ → cs.kind = .function →
    Inv x y → dp + k < recursionLimit → un + 8 * k < cLine →
    (∀ (v : Value) (h' : Heap) (tk' : Nat) (x' y' : Int) (tx' ty' : Tok) (n' : Nat), Fr h₀ L h' m → News h₀ L h' ((l, srcObj x' y' tx' ty' n') :: news) → Inv x' y' → R v → Q v { s with heap := h', toks := tk' }) →
    wpAny (model prog w) (ktrTop dp un gd cn cs L a ccd cl outer) (call (.ref f) (vs l)) Q E s

abbrev Drawn (top : Int) (v : Value) : Prop := ∃ (r : Int) (t : Tok), v = .int r t ∧ 0 ≤ r ∧ r < top

theorem fillit {P : Prop} (r : OpenLaw) (k : Params → Frag) (h : (r, k) = (r, k) → P) : P := h rfl
theorem fm_lo (a : Int) {n : Int} (h : 0 < n) : 0 ≤ a.fmod n := by rw [Int.fmod_eq_emod_of_nonneg a (by omega)]; exact Int.emod_nonneg a (by omega)
theorem fm_hi (a : Int) {n : Int} (h : 0 < n) : a.fmod n < n := by rw [Int.fmod_eq_emod_of_nonneg a (by omega)]; exact Int.emod_lt_of_pos a h
theorem fd_lo {a n : Int} (h : 0 ≤ a) (hn : 0 < n) : 0 ≤ a.fdiv n := by rw [Int.fdiv_eq_ediv_of_nonneg a (by omega)]; exact Int.ediv_nonneg h (by omega)

local macro_rules | `(tactic| walk_at "subscriptTail Name Constant ref int") => `(tactic| (k_here; first
  | ((with_reducible show wpAny _ _ (subscriptTail _ _ (Value.ref _) (Value.int 0 _)) _ _ _); k_dflt (refine' src_get0 ?k1 ?_ ?k2; (case k1 => k_asm); (case k2 => with_unfolding_all rfl); k_whole))
  | ((with_reducible show wpAny _ _ (subscriptTail _ _ (Value.ref _) (Value.int 1 _)) _ _ _); k_dflt (refine' src_get1 ?k1 ?_ ?k2; (case k1 => k_asm); (case k2 => with_unfolding_all rfl); k_whole))))
local macro_rules | `(tactic| walk_at "setItem ref int") => `(tactic| (k_here; first
  | ((with_reducible show wpAny _ _ (setItem (Value.ref _) (Value.int 0 _) (Value.int _ _)) _ _ _); k_dflt (refine' src_set0 ?k1 ?k2 ?k3 ?_; (case k1 => k_asm); (case k2 => k_asm); (case k3 => k_asm); k_whole; intro h' F' N'; (try k_sweep)))
  | ((with_reducible show wpAny _ _ (setItem (Value.ref _) (Value.int 1 _) (Value.int _ _)) _ _ _); k_dflt (refine' src_set1 ?k1 ?k2 ?k3 ?_; (case k1 => k_asm); (case k2 => k_asm); (case k3 => k_asm); k_whole; intro h' F' N'; (try k_sweep)))))

theorem take_ok (prog : Program) (w : World) (p : Program) (loose : List Str) (mean : ExcName → Option Value) (mg mb : Str → Option Value) (top : Int) (tt : Tok) (ht0 : 0 < top) (ht1 : top < 100) :
    Ct prog w (Mine.hd.heap_39 w.params) p loose mean mg mb 35 1 [] (fun l => [.ref l, .int top tt]) (Drawn top) := by
  unfold Ct
  intro dp un gd cn cs a ccd cl outer A₀ base h₀ L m s Q E l x y tx ty n news B F X N hpre hne T hk hI hd hu hret
  rw [List.nil_append] at N
  clear hpre
  refine fillit PySem.Challenge.rw_xw0197_01 Mine.hd.heap_39 ?_
  k_fill
  intro _
  have hx0 := hI.x0
  have hy0 := hI.y0
  have hy1 := hI.y1
  refine wpAny_call ?_
  k_dflt cell_enter
  k_steps
  · exact hret _ _ _ _ _ _ _ _ (by k_asm) (by k_asm) ⟨fd_lo hx0 ht0, hy0, hy1⟩ ⟨_, _, rfl, fm_lo _ ht0, fm_hi _ ht0⟩
  · exact hret _ _ _ _ _ _ _ _ (by k_asm) (by k_asm) ⟨hx0, fm_lo _ (by decide), fm_hi _ (by decide)⟩ ⟨_, _, rfl, fm_lo _ ht0, fm_hi _ ht0⟩
end Mine
namespace Mine
section
variable {prog : Program} {w : World} {p : Program} {loose : List Str} {mean : ExcName → Option Value} {mg mb : Str → Option Value}
  {dp un : Nat} {gd : Option (List Code)} {cn : Str} {cs : Scope} {a : Addr} {ccd : Value} {cl : List (Str × Addr)} {outer : List Env} {A₀ : Around} {base h₀ : Heap} {L : Addr} {m : Str → Option Value} {s : Shared} {Q E : Value → Shared → Prop}
  {l : Addr} {x y : Int} {tx ty : Tok} {n : Nat} {news : List (Addr × Obj)}
theorem take_use {top : Int} {tt : Tok} (B : Below A₀ base outer h₀) (F : Fr h₀ L s.heap m) (X : (Mine.hd.heap_39 w.params).In h₀) (N : News h₀ L s.heap ((l, srcObj x y tx ty n) :: news)) (hne : ∀ p ∈ news, p.1 ≠ l) (T : Top p loose mean mg mb h₀) (hk : cs.kind = .function)
    (hI : Inv x y) (ht0 : 0 < top) (ht1 : top < 100) (hd : dp + 1 < recursionLimit) (hu : un + 8 * 1 < cLine)
    (ret : ∀ (r : Int) (t : Tok) (h' : Heap) (tk' : Nat) (x' y' : Int) (tx' ty' : Tok) (n' : Nat), Fr h₀ L h' m → News h₀ L h' ((l, srcObj x' y' tx' ty' n') :: news) → Inv x' y' → 0 ≤ r → r < top → Q (.int r t) { s with heap := h', toks := tk' }) :
    wpAny (model prog w) (ktrTop dp un gd cn cs L a ccd cl outer) (call (.ref 35) [.ref l, .int top tt]) Q E s := by
  refine take_ok prog w p loose mean mg mb top tt ht0 ht1 dp un gd cn cs a ccd cl outer A₀ base h₀ L m s Q E l x y tx ty n news B F X N (fun _ h => nomatch h) hne T hk hI hd hu ?_
  rintro v h' tk' x' y' tx' ty' n' F' N' I' ⟨r, t, rfl, r0, r1⟩
  exact ret r t h' tk' x' y' tx' ty' n' F' N' I' r0 r1
end
section
variable {prog : Program} {w : World} {A : Around} {E : Value → Shared → Prop} {s : Shared} {h₀ : Heap} {L t : Addr} {m : Str → Option Value} {news : List (Addr × Obj)} {its : List Value} {nt : Nat}
theorem things_list (N : News h₀ L s.heap news) (hm : (t, listOf its.toArray nt) ∈ news) : s.heap.IsList t its.toArray :=
  PySem.IsL.isList (n := nt) (N _ hm).1
theorem things_get {value slice : PySem.Expr} {Q : Value → Shared → Prop} {r : Int} {u : Tok} (N : News h₀ L s.heap news) (hm : (t, listOf its.toArray nt) ∈ news) (h0 : 0 ≤ r) (h1 : r < (its.length : Int)) (h2 : its.length < 100) (h : ∀ v ∈ its, Q v s)
    (hs : subscripted slice false (.ref t) (.int r u) = operate [.ref t, .int r u] (getItem (.ref t) (.int r u)) := by with_unfolding_all rfl) :
    wpAny (model prog w) A (subscriptTail value slice (.ref t) (.int r u)) Q E s := by
  have hr : r.toNat < its.length := by omega
  exact tail_any (things_list N hm).typeIs slot_list_getitem.lookup (wpAny_getItem_list (things_list N hm) h0 (by omega) (by simpa using List.getElem?_eq_getElem hr) (h _ (List.getElem_mem hr))) hs
theorem things_len {Q : Value → Shared → Prop} (N : News h₀ L s.heap news) (hm : (t, listOf its.toArray nt) ∈ news) (h2 : its.length < 100)
    (h : ∀ (u : Tok) (tk : Nat), Q (.int (its.length : Int) u) { s with toks := tk }) : wpAny (model prog w) A (call (.builtin "len") [.ref t]) Q E s := by
  refine Calls.call_len_list (things_list N hm) (by simp only [List.size_toArray]; omega) ?_
  have := h
  simp only [List.size_toArray]
  exact h _ _
end
theorem news_swap {h₀ h : Heap} {L : Addr} {p q : Addr × Obj} {news : List (Addr × Obj)} (N : News h₀ L h (p :: q :: news)) : News h₀ L h (q :: p :: news) := fun r hr => N r (by
  rcases List.mem_cons.mp hr with rfl | hr
  · exact .tail _ (.head _)
  · rcases List.mem_cons.mp hr with rfl | hr
    · exact .head _
    · exact .tail _ (.tail _ hr))
theorem news_drop2 {h₀ h : Heap} {L : Addr} {p q : Addr × Obj} {news : List (Addr × Obj)} (N : News h₀ L h (p :: q :: news)) : News h₀ L h (p :: news) := fun r hr => N r (by
  rcases List.mem_cons.mp hr with rfl | hr
  · exact .head _
  · exact .tail _ (.tail _ hr))

local macro_rules | `(tactic| walk_at "call ref") => `(tactic| (k_here; (with_reducible show wpAny _ _ (call (Value.ref 35) _) _ _ _); k_dflt (refine' take_use ?k1 ?k2 ?k3 ?k4 ?k5 ?k6 ?k7 ?k8 ?k9 ?k10 ?kd ?ku ?_; (case k1 => k_asm); (case k2 => k_asm); (case k3 => k_asm); (case k4 => k_asm); (case k5 => k_asm); (case k6 => k_asm); (case k7 => first | exact rfl | assumption); (case k8 => k_asm); (case k9 => first | decide | omega); (case k10 => first | decide | omega); (case kd => ktr_room); (case ku => ktr_units); k_whole); intro r' t' h' tk' x' y' tx' ty' n' F' N' I' r0' r1'; (try k_sweep); (try dsimp only); (try k_fold)))
local macro_rules | `(tactic| walk_at "call builtin:len") => `(tactic| (k_here; (with_reducible show wpAny _ _ (call (Value.builtin _) [Value.ref _]) _ _ _); k_dflt (refine' things_len ?k1 ?k2 ?k3 ?_; (case k1 => k_asm); (case k2 => k_mem); (case k3 => k_asm); k_whole); intro _ _))
local macro_rules | `(tactic| walk_at "subscriptTail") => `(tactic| (k_here; (with_reducible show wpAny _ _ (subscriptTail _ _ (Value.ref _) (Value.int _ _)) _ _ _); k_dflt (refine' things_get ?k1 ?k2 ?k3 ?k4 ?k5 ?_ ?k6; (case k1 => k_asm); (case k2 => k_mem); (case k3 => k_asm); (case k4 => k_asm); (case k5 => k_asm); (case k6 => with_unfolding_all rfl); k_whole); intro v' hv'))

theorem one_ok (prog : Program) (w : World) (p : Program) (loose : List Str) (mean : ExcName → Option Value) (mg mb : Str → Option Value) (t : Addr) (its : List Value) (nt : Nat) (hl0 : 0 < its.length) (hl1 : its.length < 100) :
    Ct prog w (Mine.hd.heap_39 w.params) p loose mean mg mb 42 2 [(t, listOf its.toArray nt)] (fun l => [.ref l, .ref t]) (fun v => v ∈ its) := by
  unfold Ct
  intro dp un gd cn cs a ccd cl outer A₀ base h₀ L m s Q E l x y tx ty n news B F X N hpre hne T hk hI hd hu hret
  rw [List.cons_append, List.nil_append] at N
  replace N := news_swap N
  have htl : t ≠ l := hpre _ (.head _)
  have hne2 : ∀ p ∈ (t, listOf its.toArray nt) :: news, p.1 ≠ l := fun p hp => by
    rcases List.mem_cons.mp hp with rfl | hp
    · exact htl
    · exact hne p hp
  clear hpre
  refine fillit PySem.Challenge.rw_xw0197_01 Mine.hd.heap_39 ?_
  k_fill
  intro _
  refine wpAny_call ?_
  k_dflt cell_enter
  k_steps
  exact hret _ _ _ _ _ _ _ _ (by k_asm) (news_drop2 (by k_asm)) (by k_asm) (by k_asm)
end Mine
namespace Mine
/-- the values are texts, these -/
inductive Texts : List Value → List PySem.Str → Prop where
  | nil : Texts [] []
  | cons {x : PySem.Str} {t : Tok} {vs : List Value} {xs : List PySem.Str} : Texts vs xs → Texts (.str x t :: vs) (x :: xs)
theorem Texts.mem {vs : List Value} {xs : List PySem.Str} (h : Texts vs xs) : ∀ {v : Value}, v ∈ vs → ∃ (x : PySem.Str) (t : Tok), v = .str x t ∧ x ∈ xs := by
  induction h with
  | nil => intro v hv; cases hv
  | cons _ ih =>
    intro v hv
    rcases List.mem_cons.mp hv with rfl | hv
    · exact ⟨_, _, rfl, .head _⟩
    · obtain ⟨x, t, e, hx⟩ := ih hv
      exact ⟨x, t, e, .tail _ hx⟩
section
variable {prog : Program} {w : World} {p : Program} {loose : List Str} {mean : ExcName → Option Value} {mg mb : Str → Option Value}
  {dp un : Nat} {gd : Option (List Code)} {cn : Str} {cs : Scope} {a : Addr} {ccd : Value} {cl : List (Str × Addr)} {outer : List Env} {A₀ : Around} {base h₀ : Heap} {L : Addr} {m : Str → Option Value} {s : Shared} {Q E : Value → Shared → Prop}
  {l : Addr} {x y : Int} {tx ty : Tok} {n : Nat} {news : List (Addr × Obj)}
theorem one_use {t : Addr} {its : List Value} {xs : List PySem.Str} {nt : Nat} (B : Below A₀ base outer h₀) (F : Fr h₀ L s.heap m) (X : (Mine.hd.heap_39 w.params).In h₀) (N : News h₀ L s.heap ((t, listOf its.toArray nt) :: (l, srcObj x y tx ty n) :: news)) (htl : t ≠ l) (hne : ∀ p ∈ news, p.1 ≠ l) (T : Top p loose mean mg mb h₀) (hk : cs.kind = .function)
    (hI : Inv x y) (hx : Texts its xs) (hxl : (xs.all fun x => decide (x.length ≤ 8)) = true) (ht0 : 0 < its.length) (ht1 : its.length < 100) (hd : dp + 2 < recursionLimit) (hu : un + 8 * 2 < cLine)
    (ret : ∀ (r : PySem.Str) (u : Tok) (h' : Heap) (tk' : Nat) (x' y' : Int) (tx' ty' : Tok) (n' : Nat), Fr h₀ L h' m → News h₀ L h' ((l, srcObj x' y' tx' ty' n') :: news) → Inv x' y' → r ∈ xs → r.length ≤ 8 → Q (.str r u) { s with heap := h', toks := tk' }) :
    wpAny (model prog w) (ktrTop dp un gd cn cs L a ccd cl outer) (call (.ref 42) [.ref l, .ref t]) Q E s := by
  refine one_ok prog w p loose mean mg mb t its nt ht0 ht1 dp un gd cn cs a ccd cl outer A₀ base h₀ L m s Q E l x y tx ty n news B F X N (fun q h => ?_) hne T hk hI hd hu ?_
  · rcases List.mem_cons.mp h with rfl | h
    · exact htl
    · cases h
  · rintro v h' tk' x' y' tx' ty' n' F' N' I' hv
    obtain ⟨r, u, rfl, hr⟩ := hx.mem hv
    exact ret r u h' tk' x' y' tx' ty' n' F' N' I' hr (of_decide_eq_true (List.all_eq_true.mp hxl r hr))
end
/-- no sign of the text is q; it is short -/
structure Clean (q : Nat) (x : PySem.Str) : Prop where
  off : ∀ c ∈ x.cps.toList, c ≠ q
  short : x.cps.size ≤ 8
theorem clean_of {q : Nat} {xs : List PySem.Str} (h : (xs.all fun x => x.cps.toList.all (fun c => !(c == q)) && decide (x.cps.size ≤ 8)) = true) {x : PySem.Str} (hx : x ∈ xs) : Clean q x := by
  have h1 := List.all_eq_true.mp h x hx
  rw [Bool.and_eq_true] at h1
  refine ⟨fun c hc e => ?_, of_decide_eq_true h1.2⟩
  have h2 := List.all_eq_true.mp h1.1 c hc
  rw [e] at h2
  simp at h2
inductive Quote : PySem.Str → Nat → Prop where
  | two : Quote (PySem.Str.ofString "\"") 34
  | one : Quote (PySem.Str.ofString "'") 39

local macro_rules | `(tactic| walk_at "call ref") => `(tactic| (k_here; (with_reducible show wpAny _ _ (call (Value.ref 42) _) _ _ _); k_dflt (refine' one_use ?k1 ?k2 ?k3 ?k4 ?k5 ?k6 ?k7 ?k8 ?k9 ?k10 ?k13 ?k11 ?k12 ?kd ?ku ?_; (case k1 => k_asm); (case k2 => k_asm); (case k3 => k_asm); (case k4 => k_asm); (case k5 => k_ne); (case k6 => k_asm); (case k7 => k_asm); (case k8 => first | exact rfl | assumption); (case k9 => k_asm); (case k10 => repeat constructor); (case k13 => decide +kernel); (case k11 => first | decide | (simp; done)); (case k12 => first | decide | (simp; done)); (case kd => ktr_room); (case ku => ktr_units); k_whole); intro r' u' h' tk' x' y' tx' ty' n' F' N' I' hr' hl'; (try k_sweep); (try dsimp only); (try k_fold)))

theorem within_ok (prog : Program) (w : World) (p : Program) (loose : List Str) (mean : ExcName → Option Value) (mg mb : Str → Option Value) (qs : PySem.Str) (tq : Tok) (q : Nat) (hq : Quote qs q) :
    Ct prog w (Mine.hd.heap_39 w.params) p loose mean mg mb 49 3 [] (fun l => [.ref l, .str qs tq]) (fun v => ∃ (x : PySem.Str) (t : Tok), v = .str x t ∧ Clean q x) := by
  unfold Ct
  intro dp un gd cn cs a ccd cl outer A₀ base h₀ L m s Q E l x y tx ty n news B F X N hpre hne T hk hI hd hu hret
  rw [List.nil_append] at N
  clear hpre
  refine fillit PySem.Challenge.rw_xw0197_01 Mine.hd.heap_39 ?_
  k_fill
  intro _
  cases hq
  all_goals (
    refine wpAny_call ?_
    k_dflt cell_enter
    k_steps)
  all_goals exact hret _ _ _ _ _ _ _ _ (by k_asm) (by k_asm) (by k_asm) ⟨_, _, rfl, by (refine clean_of ?_ (by assumption); decide +kernel)⟩
end Mine
namespace Mine
/-- tag_end, sign by sign: the open quote's sign (0: none), the signs that are left, the place -/
def scan : Nat → List Nat → Nat → Option Nat × Nat × Nat
  | q, [], i => (none, i, q)
  | q, c :: r, i =>
    if q ≠ 0 then (if c = q then scan 0 r (i + 1) else scan q r (i + 1))
    else if c = 34 ∨ c = 39 then scan c r (i + 1)
    else if c = 62 then (some (i + 1), i, 0)
    else if c = 60 then (some i, i, 0)
    else scan 0 r (i + 1)
theorem scan_nil (q i : Nat) : scan q [] i = (none, i, q) := by simp [scan]
/-- signs that are not the open quote are passed over -/
theorem scan_off {q : Nat} (hq : q ≠ 0) : ∀ (x : List Nat) (r : List Nat) (i : Nat), (∀ c ∈ x, c ≠ q) → scan q (x ++ r) i = scan q r (i + x.length)
  | [], r, i, _ => by simp
  | c :: x, r, i, h => by
    have hc : c ≠ q := h c (.head _)
    rw [List.cons_append, scan, if_pos hq, if_neg hc, scan_off hq x r (i + 1) (fun d hd => h d (.tail _ hd)), List.length_cons]
    congr 1; omega
theorem scan_close {q : Nat} (hq : q ≠ 0) (r : List Nat) (i : Nat) : scan q (q :: r) i = scan 0 r (i + 1) := by
  rw [scan, if_pos hq, if_pos rfl]
theorem scan_open {q : Nat} (hq : q = 34 ∨ q = 39) (r : List Nat) (i : Nat) : scan 0 (q :: r) i = scan q r (i + 1) := by
  rw [scan, if_neg (by simp), if_pos hq]
theorem scan_gt (r : List Nat) (i : Nat) : scan 0 (62 :: r) i = (some (i + 1), i, 0) := by simp [scan]
theorem scan_lt (r : List Nat) (i : Nat) : scan 0 (60 :: r) i = (some i, i, 0) := by simp [scan]
theorem scan_other {c : Nat} (h : ¬ (c = 34 ∨ c = 39)) (h2 : c ≠ 62) (h3 : c ≠ 60) (r : List Nat) (i : Nat) : scan 0 (c :: r) i = scan 0 r (i + 1) := by
  rw [scan, if_neg (by simp), if_neg h, if_neg h2, if_neg h3]
/-- a text that leaves the scan as it was -/
def Level (x : List Nat) : Prop := ∀ (r : List Nat) (i : Nat), scan 0 (x ++ r) i = scan 0 r (i + x.length)
theorem level_nil : Level [] := fun r i => by simp
theorem Level.append {x y : List Nat} (hx : Level x) (hy : Level y) : Level (x ++ y) := fun r i => by
  rw [List.append_assoc, hx, hy, List.length_append, Nat.add_assoc]
theorem level_plain {x : List Nat} (h : ∀ c ∈ x, ¬ (c = 34 ∨ c = 39) ∧ c ≠ 62 ∧ c ≠ 60) : Level x := by
  induction x with
  | nil => exact level_nil
  | cons c x ih =>
    intro r i
    obtain ⟨h1, h2, h3⟩ := h c (.head _)
    rw [List.cons_append, scan_other h1 h2 h3, ih (fun d hd => h d (.tail _ hd)), List.length_cons]
    congr 1; omega
theorem level_quoted {q : Nat} {x : List Nat} (hq : q = 34 ∨ q = 39) (h : ∀ c ∈ x, c ≠ q) : Level (q :: x ++ [q]) := fun r i => by
  have h0 : q ≠ 0 := by omega
  rw [List.append_assoc, List.cons_append, scan_open hq, scan_off h0 _ _ _ h, List.singleton_append, scan_close h0]
  simp only [List.cons_append, List.length_cons, List.length_append, List.length_nil]
  congr 1; omega
/-- the five ends -/
theorem end_open {q : Nat} {x : List Nat} {i : Nat} (hq : q ≠ 0) (h : ∀ c ∈ x, c ≠ q) : scan q x i = (none, i + x.length, q) := by
  have := scan_off hq x [] i h
  rw [List.append_nil] at this
  rw [this, scan_nil]
/-- what closes an open quote, or nothing -/
def Closes (q : Nat) (x : List Nat) : Prop := ∀ (r : List Nat) (i : Nat), scan q (x ++ r) i = scan 0 r (i + x.length)
theorem closes_none : Closes 0 [] := fun r i => by simp
theorem closes_quote {q : Nat} {x : List Nat} (hq : q ≠ 0) (h : ∀ c ∈ x, c ≠ q) : Closes q (x ++ [q]) := fun r i => by
  rw [List.append_assoc, scan_off hq _ _ _ h, List.singleton_append, scan_close hq, List.length_append]
  simp only [List.length_cons, List.length_nil]
  congr 1
theorem end_gt {q i : Nat} {h b r : List Nat} (hh : Closes q h) (hb : Level b) : scan q (h ++ (b ++ 62 :: r)) i = (some (i + h.length + b.length + 1), i + h.length + b.length, 0) := by
  rw [hh, hb, scan_gt]
theorem end_lt {q i : Nat} {h b r : List Nat} (hh : Closes q h) (hb : Level b) : scan q (h ++ (b ++ 60 :: r)) i = (some (i + h.length + b.length), i + h.length + b.length, 0) := by
  rw [hh, hb, scan_lt]
theorem end_quote {q i p : Nat} {h b r : List Nat} (hh : Closes q h) (hb : Level b) (hp : p = 34 ∨ p = 39) (hr : ∀ c ∈ r, c ≠ p) : scan q (h ++ (b ++ p :: r)) i = (none, i + h.length + b.length + 1 + r.length, p) := by
  rw [hh, hb, scan_open hp, end_open (by omega) hr]
theorem end_none {q i : Nat} {h b : List Nat} (hh : Closes q h) (hb : Level b) : scan q (h ++ b) i = (none, i + h.length + b.length, 0) := by
  have := hb [] (i + h.length)
  rw [List.append_nil] at this
  rw [hh, this, scan_nil]

/-- the find of tag_end is a run of the scan -/
theorem scan_found {q : Nat} (hq : q ≠ 0) {x : List Nat} {i k : Nat} (hik : i ≤ k) (hk : x[k]? = some q) (h : ∀ v, i ≤ v → v < k → x[v]? ≠ some q) : scan q (x.drop i) i = scan 0 (x.drop (k + 1)) (k + 1) := by
  have hkl : k < x.length := by
    rcases Nat.lt_or_ge k x.length with h1 | h1
    · exact h1
    · rw [List.getElem?_eq_none h1] at hk; cases hk
  have e : x.drop i = (x.drop i).take (k - i) ++ q :: x.drop (k + 1) := by
    have h1 := (List.take_append_drop (k - i) (x.drop i)).symm
    rw [List.drop_drop, Nat.add_sub_cancel' hik] at h1
    rw [List.drop_eq_getElem_cons hkl] at h1
    have h2 : x[k] = q := by
      rw [List.getElem?_eq_getElem hkl] at hk; exact Option.some.inj hk
    rw [h2] at h1
    exact h1
  rw [e, scan_off hq, scan_close hq]
  · congr 1
    rw [List.length_take, List.length_drop]
    omega
  · intro c hc hcq
    obtain ⟨v, hv, e2⟩ := List.mem_iff_getElem.mp hc
    rw [List.length_take, List.length_drop] at hv
    rw [List.getElem_take, List.getElem_drop] at e2
    refine h (i + v) (by omega) (by omega) ?_
    rw [List.getElem?_eq_getElem (by omega), e2, hcq]
theorem scan_lost {q : Nat} (hq : q ≠ 0) {x : List Nat} {i : Nat} (hi : i ≤ x.length) (h : ∀ v, i ≤ v → v < x.length → x[v]? ≠ some q) : scan q (x.drop i) i = (none, x.length, q) := by
  rw [end_open hq]
  · rw [List.length_drop, Nat.add_sub_cancel' hi]
  · intro c hc hcq
    obtain ⟨v, hv, e2⟩ := List.mem_iff_getElem.mp hc
    rw [List.length_drop] at hv
    rw [List.getElem_drop] at e2
    refine h (i + v) (by omega) (by omega) ?_
    rw [List.getElem?_eq_getElem (by omega), e2, hcq]
end Mine
namespace Mine
inductive Quo : PySem.Str → Nat → Prop where
  | no : Quo (PySem.Str.ofString "") 0
  | two : Quo (PySem.Str.ofString "\"") 34
  | one : Quo (PySem.Str.ofString "'") 39
abbrev tupObj (vs : List Value) : Obj := { cls := .type "tuple", data := .seq vs.toArray }
inductive Res : Option Nat × Nat × Nat → List Value → Prop where
  | none {i q : Nat} {ti tq : Tok} {qs : PySem.Str} : Quo qs q → Res (.none, i, q) [.none, .int (i : Int) ti, .str qs tq]
  | some {k i q : Nat} {tk ti tq : Tok} {qs : PySem.Str} : Quo qs q → Res (.some k, i, q) [.int (k : Int) tk, .int (i : Int) ti, .str qs tq]
/-- what a turn of tag_end's loop turns -/
structure Tg where
  i : Int
  ti : Tok
  qs : PySem.Str
  tq : Tok
  q : Nat
  left : Nat
structure TgP (text : PySem.Str) (R : Option Nat × Nat × Nat) (c : Tg) : Prop where
  quo : Quo c.qs c.q
  lo : 0 ≤ c.i
  hi : c.i ≤ (text.length : Int)
  run : scan c.q (text.cps.toList.drop c.i.toNat) c.i.toNat = R
  left : (c.left : Int) = (text.length : Int) - c.i


section
variable {text qs : PySem.Str} {R : Option Nat × Nat × Nat} {i : Int} {q n : Nat} {t1 t2 t3 : Tok}
theorem at_item (lo : 0 ≤ i) (hi : i < (text.length : Int)) : Txt.item text i = ⟨#[text.cps.getD i.toNat 0]⟩ := item_meets ⟨lo, hi⟩
theorem at_drop (lo : 0 ≤ i) (hi : i < (text.length : Int)) : text.cps.toList.drop i.toNat = text.cps.getD i.toNat 0 :: text.cps.toList.drop (i.toNat + 1) := by
  have h : i.toNat < text.cps.toList.length := by
    have : text.length = text.cps.toList.length := by simp [PySem.Str.length]
    omega
  have h2 : i.toNat < text.cps.size := by simpa using h
  rw [List.drop_eq_getElem_cons h, Array.getElem_toList]
  congr 1
  simp [Array.getD, h2]
theorem one_inj {a b : Nat} (h : ((⟨#[a]⟩ : PySem.Str) == ⟨#[b]⟩) = true) : a = b := by
  have := congrArg PySem.Str.cps (beq_iff_eq.mp h)
  simpa using this
theorem one_ne {a b : Nat} (h : ((⟨#[a]⟩ : PySem.Str) == ⟨#[b]⟩) = false) : a ≠ b := by
  intro e
  rw [e] at h
  simp at h
theorem str_gt : PySem.Str.ofString ">" = ⟨#[62]⟩ := by decide +kernel
theorem str_lt : PySem.Str.ofString "<" = ⟨#[60]⟩ := by decide +kernel
theorem str_two : PySem.Str.ofString "\"" = ⟨#[34]⟩ := by decide +kernel
theorem str_one : PySem.Str.ofString "'" = ⟨#[39]⟩ := by decide +kernel
theorem str_both : PySem.Str.ofString "\"'" = ⟨#[34, 39]⟩ := by decide +kernel
theorem occ_in {c : Nat} {b : Bool} (h : (Builtin.Str.occurrences (PySem.Str.ofString "\"'") ⟨#[c]⟩ 0 (PySem.Str.ofString "\"'").length 1).isEmpty = b) : (!b) = decide (c = 34 ∨ c = 39) := by
  have := StrLaws.found_one (PySem.Str.ofString "\"'") c
  rw [h] at this
  rw [this, str_both]
  simp
theorem l_gt (lo : 0 ≤ i) (hi : i < (text.length : Int)) (h : (Txt.item text i == PySem.Str.ofString ">") = true) (run : scan 0 (text.cps.toList.drop i.toNat) i.toNat = R) : Res R [.int (i + 1) t1, .int i t2, .str (PySem.Str.ofString "") t3] := by
  rw [at_item lo hi, str_gt] at h
  rw [at_drop lo hi, one_inj h, scan_gt] at run
  subst run
  obtain ⟨j, rfl⟩ := Int.eq_ofNat_of_zero_le lo
  exact Res.some (k := j + 1) .no
theorem l_lt (lo : 0 ≤ i) (hi : i < (text.length : Int)) (h : (Txt.item text i == PySem.Str.ofString "<") = true) (run : scan 0 (text.cps.toList.drop i.toNat) i.toNat = R) : Res R [.int i t1, .int i t2, .str (PySem.Str.ofString "") t3] := by
  rw [at_item lo hi, str_lt] at h
  rw [at_drop lo hi, one_inj h, scan_lt] at run
  subst run
  obtain ⟨j, rfl⟩ := Int.eq_ofNat_of_zero_le lo
  exact Res.some (k := j) .no
theorem l_none (lo : 0 ≤ i) (hi : ¬ i < (text.length : Int)) (run : scan q (text.cps.toList.drop i.toNat) i.toNat = R) (hq : Quo qs q) : Res R [.none, .int i t2, .str qs t3] := by
  have h : text.cps.toList.length ≤ i.toNat := by
    have : text.length = text.cps.toList.length := by simp [PySem.Str.length]
    omega
  rw [List.drop_eq_nil_of_le h, scan_nil] at run
  subst run
  obtain ⟨j, rfl⟩ := Int.eq_ofNat_of_zero_le lo
  exact Res.none hq
theorem from_lo (lo : 0 ≤ i) : fromIndex n i = i.toNat := by
  unfold fromIndex
  rw [if_neg (by omega)]
  omega
theorem getD_q {v : Nat} (h : v < text.length) : text.cps.toList[v]? = some (text.cps.getD v 0) := by
  have h2 : v < text.cps.size := h
  rw [Array.getElem?_toList]
  simp [Array.getD, h2]
theorem quo_sign (hq : Quo qs q) (h0 : q ≠ 0) : qs = ⟨#[q]⟩ := by
  cases hq with
  | no => exact absurd rfl h0
  | two => exact str_two
  | one => exact str_one
theorem l_lost (lo : 0 ≤ i) (hi : i ≤ (text.length : Int)) (hq : Quo qs q) (h0 : q ≠ 0) (h : Txt.find3 text qs i < 0) (run : scan q (text.cps.toList.drop i.toNat) i.toNat = R) : Res R [.none, .int (text.length : Int) t2, .str qs t3] := by
  rw [quo_sign hq h0] at h
  rcases StrLaws.find3_spec text q i with ⟨_, hn⟩ | ⟨k, hk, _⟩
  · rw [from_lo lo] at hn
    have e : text.length = text.cps.toList.length := by simp [PySem.Str.length]
    rw [scan_lost h0 (by omega)] at run
    · subst run
      rw [← e]
      exact Res.none hq
    · intro v h1 h2 h3
      have h4 : v < text.length := by omega
      rw [getD_q h4] at h3
      exact hn v h1 h4 (Option.some.inj h3)
  · omega
theorem l_other (lo : 0 ≤ i) (hi : i < (text.length : Int)) (h1 : (Builtin.Str.occurrences (PySem.Str.ofString "\"'") (Txt.item text i) 0 (PySem.Str.ofString "\"'").length 1).isEmpty = true) (h2 : (Txt.item text i == PySem.Str.ofString ">") = false) (h3 : (Txt.item text i == PySem.Str.ofString "<") = false)
    (run : scan 0 (text.cps.toList.drop i.toNat) i.toNat = R) (left : (n : Int) = (text.length : Int) - i) : TgP text R ⟨i + 1, t1, PySem.Str.ofString "", t2, 0, n - 1⟩ := by
  rw [at_item lo hi] at h1 h2 h3
  rw [str_gt] at h2
  rw [str_lt] at h3
  have h4 : ¬ (text.cps.getD i.toNat 0 = 34 ∨ text.cps.getD i.toNat 0 = 39) := by
    have := occ_in h1
    exact of_decide_eq_false this.symm
  rw [at_drop lo hi, scan_other h4 (one_ne h2) (one_ne h3)] at run
  refine ⟨.no, by dsimp only; omega, by dsimp only; omega, ?_, by dsimp only; omega⟩
  dsimp only
  rw [show (i + 1).toNat = i.toNat + 1 by omega]
  exact run
theorem l_open (lo : 0 ≤ i) (hi : i < (text.length : Int)) (h1 : (Builtin.Str.occurrences (PySem.Str.ofString "\"'") (Txt.item text i) 0 (PySem.Str.ofString "\"'").length 1).isEmpty = false)
    (run : scan 0 (text.cps.toList.drop i.toNat) i.toNat = R) (left : (n : Int) = (text.length : Int) - i) : TgP text R ⟨i + 1, t1, Txt.item text i, t2, text.cps.getD i.toNat 0, n - 1⟩ := by
  rw [at_item lo hi] at h1 ⊢
  have h4 : text.cps.getD i.toNat 0 = 34 ∨ text.cps.getD i.toNat 0 = 39 := by
    have := occ_in h1
    exact of_decide_eq_true this.symm
  rw [at_drop lo hi, scan_open h4] at run
  refine ⟨?_, by dsimp only; omega, by dsimp only; omega, ?_, by dsimp only; omega⟩
  · dsimp only
    rcases h4 with h4 | h4 <;> rw [h4]
    · rw [← str_two]; exact .two
    · rw [← str_one]; exact .one
  · dsimp only
    rw [show (i + 1).toNat = i.toNat + 1 by omega]
    exact run
theorem found_ge (lo : 0 ≤ i) (hq : Quo qs q) (h0 : q ≠ 0) (h : ¬ Txt.find3 text qs i < 0) : i ≤ Txt.find3 text qs i ∧ Txt.find3 text qs i < (text.length : Int) := by
  rw [quo_sign hq h0] at h ⊢
  rcases StrLaws.find3_spec text q i with ⟨hk, _⟩ | ⟨k, hk, h1, h2, _⟩
  · omega
  · rw [from_lo lo] at h1
    omega
theorem l_found (lo : 0 ≤ i) (hq : Quo qs q) (h0 : q ≠ 0) (h : ¬ Txt.find3 text qs i < 0) (run : scan q (text.cps.toList.drop i.toNat) i.toNat = R) :
    TgP text R ⟨Txt.find3 text qs i + 1, t1, PySem.Str.ofString "", t2, 0, text.length - (Txt.find3 text qs i + 1).toNat⟩ := by
  have hg := found_ge lo hq h0 h
  refine ⟨.no, by dsimp only; omega, by dsimp only; omega, ?_, by dsimp only; omega⟩
  dsimp only
  rw [quo_sign hq h0] at h hg ⊢
  rcases StrLaws.find3_spec text q i with ⟨hk, _⟩ | ⟨k, hk, h1, h2, h3, h4⟩
  · omega
  · rw [from_lo lo] at h1 h4
    rw [hk, show ((k : Int) + 1).toNat = k + 1 by omega]
    rw [scan_found h0 h1 (by rw [getD_q h2, h3])] at run
    · exact run
    · intro v h5 h6 h7
      rw [getD_q (by omega)] at h7
      exact h4 v h5 h6 (Option.some.inj h7)
end

local macro_rules | `(tactic| walk_at "KswEnd") => `(tactic| ((rename News _ _ _ _ => nE'); first
  | (refine ksw_end ⟨_, _, _, _, _, _⟩ (by assumption) nE' (fun _ hp => hp) True.intro (by kst_all) (by ksw_same) (by exact l_other (by assumption) (by assumption) (by assumption) (by assumption) (by assumption) (by assumption) (by assumption)) (by dsimp only; omega))
  | (refine ksw_end ⟨_, _, _, _, _, _⟩ (by assumption) nE' (fun _ hp => hp) True.intro (by kst_all) (by ksw_same) (by exact l_open (by assumption) (by assumption) (by assumption) (by assumption) (by assumption)) (by dsimp only; omega))
  | (refine ksw_end ⟨_, _, _, _, _, _⟩ (by assumption) nE' (fun _ hp => .tail _ hp) True.intro (by kst_all) (by ksw_same) (by exact l_found (by assumption) .two (by decide) (by assumption) (by assumption)) (by have := found_ge (by assumption) .two (by decide) (by assumption); dsimp only; omega))
  | (refine ksw_end ⟨_, _, _, _, _, _⟩ (by assumption) nE' (fun _ hp => .tail _ hp) True.intro (by kst_all) (by ksw_same) (by exact l_found (by assumption) .one (by decide) (by assumption) (by assumption)) (by have := found_ge (by assumption) .one (by decide) (by assumption); dsimp only; omega))))
local macro_rules | `(tactic| walk_at "exec While Compare cons nil") => `(tactic| (k_here; (rename Fr _ _ _ _ => lF'); (rename News _ _ _ _ => lN'); (rename TgP _ _ _ => lP'); (with_unfolding_all refine' ksw_while (fun _ => _) (fun c : Tg => [(PySem.Str.ofString "at", Value.int c.i c.ti), (PySem.Str.ofString "quote", Value.str c.qs c.tq)]) (fun _ => True) [PySem.Str.ofString "sign", PySem.Str.ofString "end"] _ Tg.left _ lF' lN' True.intro ?kk lP' ?_ ?ke); (case kk => kst_all); (case ke => passes_own); (all_goals (try clear lF' lN' lP')); intro c' u' h' tk' _ hP' F' N'; (rcases c' with ⟨i', ti', qs', tq', q', n'⟩); (rcases hP' with ⟨hq', lo', hi', run', left'⟩); (dsimp only [kstB] at F'); (dsimp only at hq' lo' hi' run' left'); cases hq'))

theorem tag_ok (prog : Program) (w : World) (p : Program) (loose : List Str) (mean : ExcName → Option Value) (mg mb : Str → Option Value) (text : PySem.Str) (tt : Tok) (i : Int) (ti : Tok) (qs : PySem.Str) (tq : Tok) (q : Nat) (hq : Quo qs q) (h0 : 0 ≤ i) (h1 : i ≤ (text.length : Int)) (hl : text.length ≤ 1000)
    (dp un : Nat) (gd : Option (List Code)) (cn : Str) (cs : Scope) (a : Addr) (ccd : Value) (cl : List (Str × Addr)) (outer : List Env) (A₀ : Around) (base h₀ : Heap) (L : Addr) (m : Str → Option Value) (s : Shared) (Q E : Value → Shared → Prop) (news : List (Addr × Obj))
    (B : Below A₀ base outer h₀) (F : Fr h₀ L s.heap m) (X : (Mine.hd.heap_39 w.params).In h₀) (N : News h₀ L s.heap news) (T : Top p loose mean mg mb h₀) (hk : cs.kind = .function) (hd : dp + 1 < recursionLimit) (hu : un + 8 < cLine)
    (hret : ∀ (t : Addr) (vs : List Value) (h' : Heap) (tk' : Nat), Fr h₀ L h' m → News h₀ L h' ((t, tupObj vs) :: news) → (∀ p ∈ news, p.1 < t) → Res (scan q (text.cps.toList.drop i.toNat) i.toNat) vs → Q (.ref t) { s with heap := h', toks := tk' }) :
    wpAny (model prog w) (ktrTop dp un gd cn cs L a ccd cl outer) (call (.ref 21) [.str text tt, .int i ti, .str qs tq]) Q E s := by
  refine fillit PySem.Challenge.rw_xw0197_01 Mine.hd.heap_39 ?_
  k_fill
  intro _
  have hP : TgP text (scan q (text.cps.toList.drop i.toNat) i.toNat) ⟨i, ti, qs, tq, q, text.length - i.toNat⟩ := ⟨hq, h0, h1, rfl, by dsimp only; omega⟩
  generalize scan q (text.cps.toList.drop i.toNat) i.toNat = R at hP hret
  refine wpAny_call ?_
  k_dflt cell_enter
  k_steps
  all_goals (refine hret _ _ _ _ (by k_asm) (by k_asm) (by k_asm) ?_)
  all_goals first
    | exact l_gt (by assumption) (by assumption) (by assumption) (by assumption)
    | exact l_lt (by assumption) (by assumption) (by assumption) (by assumption)
    | exact l_none (by assumption) (by assumption) (by assumption) .no
    | exact l_none (by assumption) (by assumption) (by assumption) .two
    | exact l_none (by assumption) (by assumption) (by assumption) .one
    | exact l_lost (by assumption) (by assumption) .two (by decide) (by assumption) (by assumption)
    | exact l_lost (by assumption) (by assumption) .one (by decide) (by assumption) (by assumption)
end Mine
namespace Mine
section
variable {prog : Program} {w : World} {p : Program} {loose : List Str} {mean : ExcName → Option Value} {mg mb : Str → Option Value}
  {dp un : Nat} {gd : Option (List Code)} {cn : Str} {cs : Scope} {a : Addr} {ccd : Value} {cl : List (Str × Addr)} {outer : List Env} {A₀ : Around} {base h₀ : Heap} {L : Addr} {m : Str → Option Value} {s : Shared} {Q E : Value → Shared → Prop}
  {l : Addr} {x y : Int} {tx ty : Tok} {n : Nat} {news : List (Addr × Obj)}
theorem within_use {qs : PySem.Str} {tq : Tok} {q : Nat} (B : Below A₀ base outer h₀) (F : Fr h₀ L s.heap m) (X : (Mine.hd.heap_39 w.params).In h₀) (N : News h₀ L s.heap ((l, srcObj x y tx ty n) :: news)) (hne : ∀ p ∈ news, p.1 ≠ l) (T : Top p loose mean mg mb h₀) (hk : cs.kind = .function)
    (hI : Inv x y) (hq : Quote qs q) (hd : dp + 3 < recursionLimit) (hu : un + 8 * 3 < cLine)
    (ret : ∀ (r : PySem.Str) (u : Tok) (h' : Heap) (tk' : Nat) (x' y' : Int) (tx' ty' : Tok) (n' : Nat), Fr h₀ L h' m → News h₀ L h' ((l, srcObj x' y' tx' ty' n') :: news) → Inv x' y' → Clean q r → r.length ≤ 8 → Q (.str r u) { s with heap := h', toks := tk' }) :
    wpAny (model prog w) (ktrTop dp un gd cn cs L a ccd cl outer) (call (.ref 49) [.ref l, .str qs tq]) Q E s := by
  refine within_ok prog w p loose mean mg mb qs tq q hq dp un gd cn cs a ccd cl outer A₀ base h₀ L m s Q E l x y tx ty n news B F X N (fun _ h => nomatch h) hne T hk hI hd hu ?_
  rintro v h' tk' x' y' tx' ty' n' F' N' I' ⟨r, u, rfl, hr⟩
  exact ret r u h' tk' x' y' tx' ty' n' F' N' I' hr hr.short
end
theorem quote_of {r : PySem.Str} (h : r ∈ [PySem.Str.ofString "", PySem.Str.ofString "\"", PySem.Str.ofString "'"]) (h2 : (r == PySem.Str.ofString "") = false) : ∃ q, Quote r q := by
  rcases List.mem_cons.mp h with rfl | h
  · simp at h2
  · rcases List.mem_cons.mp h with rfl | h
    · exact ⟨_, .two⟩
    · rw [List.mem_singleton.mp h]
      exact ⟨_, .one⟩
local macro_rules | `(tactic| walk_at "call ref") => `(tactic| (k_here; (with_reducible show wpAny _ _ (call (Value.ref 35) _) _ _ _); k_dflt (refine' take_use ?k1 ?k2 ?k3 ?k4 ?k5 ?k6 ?k7 ?k8 ?k9 ?k10 ?kd ?ku ?_; (case k1 => k_asm); (case k2 => k_asm); (case k3 => k_asm); (case k4 => k_asm); (case k5 => k_asm); (case k6 => k_asm); (case k7 => first | exact rfl | assumption); (case k8 => k_asm); (case k9 => first | decide | omega); (case k10 => first | decide | omega); (case kd => ktr_room); (case ku => ktr_units); k_whole); intro r' t' h' tk' x' y' tx' ty' n' F' N' I' r0' r1'; (try k_sweep); (try dsimp only); (try k_fold)))
local macro_rules | `(tactic| walk_at "call ref") => `(tactic| (k_here; (with_reducible show wpAny _ _ (call (Value.ref 42) _) _ _ _); k_dflt (refine' one_use ?k1 ?k2 ?k3 ?k4 ?k5 ?k6 ?k7 ?k8 ?k9 ?k10 ?k13 ?k11 ?k12 ?kd ?ku ?_; (case k1 => k_asm); (case k2 => k_asm); (case k3 => k_asm); (case k4 => k_asm); (case k5 => k_ne); (case k6 => k_asm); (case k7 => k_asm); (case k8 => first | exact rfl | assumption); (case k9 => k_asm); (case k10 => repeat constructor); (case k13 => decide +kernel); (case k11 => first | decide | (simp; done)); (case k12 => first | decide | (simp; done)); (case kd => ktr_room); (case ku => ktr_units); k_whole); intro r' u' h' tk' x' y' tx' ty' n' F' N' I' hr' hl'; (try k_sweep); (try dsimp only); (try k_fold)))
local macro_rules | `(tactic| walk_at "call ref") => `(tactic| (k_here; (with_reducible show wpAny _ _ (call (Value.ref 49) _) _ _ _); (try (have hq9 := quote_of (by assumption) (by assumption); rcases hq9 with ⟨q9, hq9⟩)); k_dflt (refine' within_use ?k1 ?k2 ?k3 ?k4 ?k5 ?k6 ?k7 ?k8 ?k9 ?kd ?ku ?_; (case k1 => k_asm); (case k2 => k_asm); (case k3 => k_asm); (case k4 => k_asm); (case k5 => k_asm); (case k6 => k_asm); (case k7 => first | exact rfl | assumption); (case k8 => k_asm); (case k9 => k_asm); (case kd => ktr_room); (case ku => ktr_units); k_whole); intro r' u' h' tk' x' y' tx' ty' n' F' N' I' hr' hl'; (try k_sweep); (try dsimp only); (try k_fold)))
local macro_rules | `(tactic| walk_at "exec For Name Call cons nil") => `(tactic| (k_here; (rename Fr _ _ _ _ => lF'); (with_unfolding_all refine' For_invVF lF' ?k1 ?k2 ?_; (case k1 => exact rfl); (case k2 => exact rfl); k_whole)))

/-- what a turn of the body's loop turns -/
structure Bd where
  x : Int
  y : Int
  tx : Tok
  ty : Tok
  n : Nat
  f : PySem.Str
  tf : Tok
abbrev bdLed (l : Addr) (news : List (Addr × Obj)) (c : Bd) : List (Addr × Obj) := (l, srcObj c.x c.y c.tx c.ty c.n) :: news
abbrev bdPs (c : Bd) : List (PySem.Str × Value) := [(PySem.Str.ofString "found", Value.str c.f c.tf)]
structure BdP (pre : List Int) (c : Bd) : Prop where
  inv : Inv c.x c.y
  lev : Level c.f.cps.toList
  len : c.f.length ≤ 10 * pre.length
theorem bd_start {x y : Int} {tx ty : Tok} {n : Nat} {tf : Tok} (I : Inv x y) : BdP [] ⟨x, y, tx, ty, n, PySem.Str.ofString "", tf⟩ :=
  ⟨I, by dsimp only; rw [show (PySem.Str.ofString "").cps.toList = [] from by decide +kernel]; exact level_nil, Nat.le_of_eq (by dsimp only; decide +kernel)⟩
theorem off_ne {own news : List (Addr × Obj)} {l : Addr} {o : Obj} (h : OwnOff own (((l, o) :: news).map (·.1))) (hne : ∀ p ∈ news, p.1 ≠ l) : ∀ p ∈ news ++ own, p.1 ≠ l := fun p hp => by
  rcases List.mem_append.mp hp with hp | hp
  · exact hne p hp
  · exact h p hp l (.head _)
theorem str_app (a b : PySem.Str) : (a ++ b).cps.toList = a.cps.toList ++ b.cps.toList := by
  show (a.cps ++ b.cps).toList = _
  simp
theorem str_len (a b : PySem.Str) : (a ++ b).length = a.length + b.length := by
  show (a.cps ++ b.cps).size = _
  simp [PySem.Str.length]
theorem quote_codes {qs : PySem.Str} {q : Nat} (h : Quote qs q) : qs.cps.toList = [q] ∧ (q = 34 ∨ q = 39) := by
  cases h with
  | two => exact ⟨by decide +kernel, .inl rfl⟩
  | one => exact ⟨by decide +kernel, .inr rfl⟩
theorem plain_of {xs : List PySem.Str} (h : (xs.all fun x => x.cps.toList.all fun c => !(c == 34) && !(c == 39) && !(c == 62) && !(c == 60)) = true) {x : PySem.Str} (hx : x ∈ xs) : Level x.cps.toList := by
  have h1 := List.all_eq_true.mp h x hx
  refine level_plain fun c hc => ?_
  have h2 := List.all_eq_true.mp h1 c hc
  simp only [Bool.and_eq_true, Bool.not_eq_true', beq_eq_false_iff_ne, ne_eq] at h2
  obtain ⟨⟨⟨a, b⟩, c1⟩, d⟩ := h2
  exact ⟨fun e => e.elim a b, c1, d⟩
section
variable {pre : List Int} {k x y : Int} {tx ty t : Tok} {n q : Nat} {f r qs : PySem.Str} {l : Addr} {news own : List (Addr × Obj)}
theorem bd_plain (I : Inv x y) (lev : Level f.cps.toList) (len : f.length ≤ 10 * pre.length) (hr : r ∈ [PySem.Str.ofString "a", PySem.Str.ofString " b=", PySem.Str.ofString "/", PySem.Str.ofString "x y", PySem.Str.ofString "&amp;"]) (hl : r.length ≤ 8) : BdP (pre ++ [k]) ⟨x, y, tx, ty, n, f ++ r, t⟩ := by
  refine ⟨I, ?_, ?_⟩
  · dsimp only
    rw [str_app]
    exact lev.append (plain_of (by decide +kernel) hr)
  · dsimp only
    rw [str_len, List.length_append, List.length_cons, List.length_nil]
    omega
theorem bd_quoted (I : Inv x y) (lev : Level f.cps.toList) (len : f.length ≤ 10 * pre.length) (hq : Quote qs q) (hc : Clean q r) (hl : r.length ≤ 8) : BdP (pre ++ [k]) ⟨x, y, tx, ty, n, f ++ qs ++ r ++ qs, t⟩ := by
  obtain ⟨h1, h2⟩ := quote_codes hq
  have h3 : qs.length = 1 := by
    show qs.cps.size = 1
    rw [← Array.length_toList, h1]
    rfl
  refine ⟨I, ?_, ?_⟩
  · dsimp only
    rw [str_app, str_app, str_app, h1, List.append_assoc, List.append_assoc]
    have := level_quoted h2 hc.off
    rw [List.cons_append] at this
    exact lev.append this
  · dsimp only
    rw [str_len, str_len, str_len, List.length_append, List.length_cons, List.length_nil]
    omega
theorem bd_in {tf : Tok} : ∀ p ∈ bdLed l news ⟨x, y, tx, ty, n, f, tf⟩, p ∈ (l, srcObj x y tx ty n) :: (news ++ own) := fun p hp => by
  rcases List.mem_cons.mp hp with rfl | hp
  · exact .head _
  · exact .tail _ (List.mem_append.mpr (.inl hp))
theorem own_in {p0 : Addr × Obj} : ∀ p ∈ own, p ∈ p0 :: (news ++ own) := fun _ hp => .tail _ (List.mem_append.mpr (.inr hp))
end
theorem bd_end {h₀ h' : Heap} {L : Addr} {m₀ m' : Str → Option Value} {x0 : Str} {stored : List Str} {pre : List Int} {own news : List (Addr × Obj)} {l : Addr} {c₀ : Bd} {s₁ : Shared} {tk : Nat} {x y : Int} {tx ty t : Tok} {n : Nat} {f : PySem.Str}
    (F : Fr h₀ L h' m') (N : News h₀ L h' ((l, srcObj x y tx ty n) :: (news ++ own))) (hk : m' (PySem.Str.ofString "found") = some (.str f t)) (hr : ∀ z, z ≠ x0 → (∀ p ∈ bdPs ⟨x, y, tx, ty, n, f, t⟩, z ≠ p.1) → stored.contains z = false → m' z = m₀ z) (hp : BdP pre ⟨x, y, tx, ty, n, f, t⟩) :
    InvEndN h₀ L (KstS (bdLed l news) bdPs (fun _ => True) x0 stored m₀ BdP pre) own ((bdLed l news c₀).map (·.1)) s₁ { s₁ with heap := h', toks := tk } :=
  kst_end (Led := bdLed l news) (ps := bdPs) (Facts := fun _ => True) ⟨x, y, tx, ty, n, f, t⟩ F N bd_in own_in rfl True.intro (fun p hp => by rw [List.mem_singleton.mp hp]; exact hk) hr hp
local macro_rules | `(tactic| walk_at "InvEndN") => `(tactic| k_dflt ((refine bd_end (by assumption) (by assumption) (by with_unfolding_all rfl) (by kst_same) ?_); first | exact bd_plain (by assumption) (by assumption) (by assumption) (by assumption) (by assumption) | exact bd_quoted (by assumption) (by assumption) (by assumption) (by assumption) (by assumption) (by assumption)))
local macro_rules | `(tactic| walk_at "pyIter ref") => `(tactic| (k_here; (with_reducible show wpAny _ _ (pyIter (Value.ref _)) (fun it s₂ => LoopAtV _ _ _ _ _ _ _ _ _ it s₂) _ _); (rename Fr _ _ _ _ => lF'); (rename News _ _ _ _ => lN'); (rename IsRange _ _ _ _ _ _ _ _ => rgX); (rename Inv _ _ => lI'); (with_unfolding_all refine' kst_range (bdLed _ _) bdPs (fun _ => True) [PySem.Str.ofString "quote"] BdP ⟨_, _, _, _, _, _, _⟩ (by rfl) (by exact rgX) (by exact small_one (by omega) (by omega) (by omega) (by omega)) (by first | exact rangeSize_nat _ _ | rfl) lF' ?kn True.intro ?kk ?kp ?_ ?_); (case kn => k_dflt (exact lN')); (case kk => k_dflt kst_all); (case kp => k_dflt (exact bd_start lI')); (all_goals (try clear lF' lN')); (all_goals first | (intro c' pre' k' t' u' h' tk' own' hk' hlt' hoff' hf' hP' F' N'; (have hne' := off_ne hoff' (by assumption)); (rcases c' with ⟨x9, y9, tx9, ty9, n9, f9, tf9⟩); (rcases hP' with ⟨I9, lev9, len9⟩); (dsimp only [bdLed, bdPs, kstB] at F' N' I9 lev9 len9); (rw [List.cons_append] at N'); (have hf9 : f9.length ≤ 40 := by omega)) | (intro c' u' h' tk' hf' hP' F' N')); walk_say "BODYLOOP"))

theorem body_ok (prog : Program) (w : World) (p : Program) (loose : List Str) (mean : ExcName → Option Value) (mg mb : Str → Option Value) :
    Ct prog w (Mine.hd.heap_39 w.params) p loose mean mg mb 56 4 [] (fun l => [.ref l]) (fun v => ∃ (x : PySem.Str) (t : Tok), v = .str x t ∧ Level x.cps.toList ∧ x.length ≤ 50) := by
  unfold Ct
  intro dp un gd cn cs a ccd cl outer A₀ base h₀ L m s Q E l x y tx ty n news B F X N hpre hne T hk hI hd hu hret
  rw [List.nil_append] at N
  clear hpre
  refine fillit PySem.Challenge.rw_xw0197_01 Mine.hd.heap_39 ?_
  k_fill
  intro _
  refine wpAny_call ?_
  k_dflt cell_enter
  k_steps
  (rename BdP _ _ => hP9)
  refine hret _ _ _ _ _ _ _ _ (by k_asm) (by k_asm) hP9.inv ⟨_, _, rfl, hP9.lev, ?_⟩
  have := hP9.len
  rw [rangeKs_length] at this
  omega
end Mine
namespace Mine
open PySem.SeqAt
/-- two rows of plain values, equal place by place -/
inductive Same : List Value → List Value → Prop where
  | nil : Same [] []
  | none {vs ws : List Value} : Same vs ws → Same (.none :: vs) (.none :: ws)
  | int {a b : Int} {t u : Tok} {vs ws : List Value} : a = b → Same vs ws → Same (.int a t :: vs) (.int b u :: ws)
  | str {a b : PySem.Str} {t u : Tok} {vs ws : List Value} : a = b → Same vs ws → Same (.str a t :: vs) (.str b u :: ws)
theorem Same.length {vs ws : List Value} (h : Same vs ws) : vs.length = ws.length := by
  induction h with
  | nil => rfl
  | none _ ih => simp [ih]
  | int _ _ ih => simp [ih]
  | str _ _ ih => simp [ih]
theorem Same.at {A : Around} {s : Shared} {vs ws : List Value} (h : Same vs ws) : ∀ j (h1 : j < vs.length) (h2 : j < ws.length), EqAt A s vs[j] ws[j] true := by
  induction h with
  | nil => intro j h1; exact absurd h1 (Nat.not_lt_zero _)
  | none _ ih =>
    intro j h1 h2
    cases j with
    | zero => exact EqAt.same .none
    | succ j => exact ih j (Nat.lt_of_succ_lt_succ h1) (Nat.lt_of_succ_lt_succ h2)
  | @int a b t u _ _ e _ ih =>
    intro j h1 h2
    cases j with
    | zero => have := EqAt.int_int (A := A) (s := s) a t b u; rw [e, beq_self_eq_true] at this; exact e ▸ this
    | succ j => exact ih j (Nat.lt_of_succ_lt_succ h1) (Nat.lt_of_succ_lt_succ h2)
  | @str a b t u _ _ e _ ih =>
    intro j h1 h2
    cases j with
    | zero => have := EqAt.str_str (A := A) (s := s) a t b u; rw [e, beq_self_eq_true] at this; exact e ▸ this
    | succ j => exact ih j (Nat.lt_of_succ_lt_succ h1) (Nat.lt_of_succ_lt_succ h2)
section
variable {prog : Program} {w : World} {A : Around} {E : Value → Shared → Prop} {s : Shared} {h₀ : Heap} {L l b : Addr} {news : List (Addr × Obj)} {vs ws : List Value}
theorem tup_at (N : News h₀ L s.heap news) (hm : (l, tupObj vs) ∈ news) : s.heap.IsTuple l vs.toArray := ⟨_, (N _ hm).1, rfl, _, rfl⟩
theorem all_true (n : Nat) : ((List.range n).all fun _ => true) = true := by simp
theorem tup_eq {Q : Value → Shared → Prop} (N : News h₀ L s.heap news) (h1 : (l, tupObj vs) ∈ news) (h2 : (b, tupObj ws) ∈ news) (hu : A.units < cLine) (hs : Same vs ws) (h : Q (.bool true) s) :
    wpAny (model prog w) A (compareOp .Eq (.ref l) (.ref b)) Q E s := by
  have hl := hs.length
  refine eq_tupleAt (e := fun _ => true) (tup_at N h1) (tup_at N h2) hu (fun j a b => by simpa using hs.at j (by simpa using a) (by simpa using b)) ?_
  rw [all_true]
  simp only [List.size_toArray, hl, beq_self_eq_true, Bool.and_self]
  exact h
theorem tup_ne {Q : Value → Shared → Prop} (N : News h₀ L s.heap news) (h1 : (l, tupObj vs) ∈ news) (h2 : (b, tupObj ws) ∈ news) (hu : A.units < cLine) (hs : Same vs ws) (h : Q (.bool false) s) :
    wpAny (model prog w) A (compareOp .NotEq (.ref l) (.ref b)) Q E s := by
  have hl := hs.length
  refine (RcNeAt.tuples (e := fun _ => true) (tup_at N h1) (tup_at N h2) hu (fun j a b => by simpa using hs.at j (by simpa using a) (by simpa using b))) prog w E Q ?_
  rw [all_true]
  simp only [List.size_toArray, hl, beq_self_eq_true, Bool.and_self, Bool.not_true]
  exact h
end
/-- what a result says -/
theorem Res.say_some {R : Option Nat × Nat × Nat} {vs : List Value} (h : Res R vs) {k i : Nat} (e : R = (Option.some k, i, 0)) : ∃ t1 t2 t3, vs = [.int (k : Int) t1, .int (i : Int) t2, .str (PySem.Str.ofString "") t3] := by
  cases h with
  | none _ => cases e
  | some hq =>
    cases e
    cases hq
    exact ⟨_, _, _, rfl⟩
theorem Res.say_none {R : Option Nat × Nat × Nat} {vs : List Value} (h : Res R vs) {i q : Nat} {qs : PySem.Str} (e : R = (Option.none, i, q)) (hq : Quo qs q) : ∃ t2 t3, vs = [.none, .int (i : Int) t2, .str qs t3] := by
  cases h with
  | some _ => cases e
  | none hq' =>
    cases e
    cases hq' <;> cases hq <;> exact ⟨_, _, rfl⟩
end Mine
namespace Mine
/-- wi and then qs close what is open -/
def Shuts (q : Nat) (wi qs : PySem.Str) : Prop := Closes q (wi.cps.toList ++ qs.cps.toList)
theorem str_no : (PySem.Str.ofString "").cps.toList = [] := by decide +kernel
theorem shuts_no : Shuts 0 (PySem.Str.ofString "") (PySem.Str.ofString "") := by
  unfold Shuts
  rw [str_no]
  exact closes_none
theorem shuts_two {wi : PySem.Str} (h : Clean 34 wi) : Shuts 34 wi (PySem.Str.ofString "\"") := by
  unfold Shuts
  rw [(quote_codes .two).1]
  exact closes_quote (by decide) h.off
theorem shuts_one {wi : PySem.Str} (h : Clean 39 wi) : Shuts 39 wi (PySem.Str.ofString "'") := by
  unfold Shuts
  rw [(quote_codes .one).1]
  exact closes_quote (by decide) h.off
theorem codes_len (x : PySem.Str) : x.cps.toList.length = x.length := by simp [PySem.Str.length]
theorem nat_back (n : Nat) : ((n : Int)).toNat = n := Int.toNat_natCast n
section
variable {a wi qs b tl : PySem.Str} {q p : Nat} {vs : List Value}
theorem site_open (h0 : q ≠ 0) (hq : Quo qs q) (hc : Clean q wi) (h : Res (scan q ((a ++ wi).cps.toList.drop ((a.length : Nat) : Int).toNat) ((a.length : Nat) : Int).toNat) vs) :
    ∃ t2 t3, vs = [.none, .int (((a ++ wi).length : Nat) : Int) t2, .str qs t3] := by
  refine h.say_none ?_ hq
  rw [nat_back, str_app, List.drop_left' (codes_len a), end_open h0 hc.off, str_len, codes_len]
theorem site_gt (hc : Shuts q wi qs) (hb : Level b.cps.toList) (h : Res (scan q ((a ++ wi ++ qs ++ b ++ PySem.Str.ofString ">" ++ tl).cps.toList.drop ((a.length : Nat) : Int).toNat) ((a.length : Nat) : Int).toNat) vs) :
    ∃ t1 t2 t3, vs = [.int ((((a ++ wi ++ qs ++ b).length : Nat) : Int) + 1) t1, .int (((a ++ wi ++ qs ++ b).length : Nat) : Int) t2, .str (PySem.Str.ofString "") t3] := by
  have e : scan q ((a ++ wi ++ qs ++ b ++ PySem.Str.ofString ">" ++ tl).cps.toList.drop ((a.length : Nat) : Int).toNat) ((a.length : Nat) : Int).toNat = (some ((a ++ wi ++ qs ++ b).length + 1), (a ++ wi ++ qs ++ b).length, 0) := by
    simp only [nat_back, str_app, List.append_assoc, List.drop_left' (codes_len a)]
    have := end_gt (i := a.length) (r := tl.cps.toList) hc hb
    rw [List.append_assoc] at this
    rw [show (PySem.Str.ofString ">").cps.toList = [62] from by decide +kernel, List.singleton_append, this]
    simp only [List.length_append, codes_len, str_len]
    congr 2 <;> first | omega | (congr 1; omega)
  obtain ⟨t1, t2, t3, e2⟩ := h.say_some e
  exact ⟨t1, t2, t3, e2⟩
theorem site_lt (hc : Shuts q wi qs) (hb : Level b.cps.toList) (h : Res (scan q ((a ++ wi ++ qs ++ b ++ PySem.Str.ofString "<" ++ tl).cps.toList.drop ((a.length : Nat) : Int).toNat) ((a.length : Nat) : Int).toNat) vs) :
    ∃ t1 t2 t3, vs = [.int (((a ++ wi ++ qs ++ b).length : Nat) : Int) t1, .int (((a ++ wi ++ qs ++ b).length : Nat) : Int) t2, .str (PySem.Str.ofString "") t3] := by
  have e : scan q ((a ++ wi ++ qs ++ b ++ PySem.Str.ofString "<" ++ tl).cps.toList.drop ((a.length : Nat) : Int).toNat) ((a.length : Nat) : Int).toNat = (some ((a ++ wi ++ qs ++ b).length), (a ++ wi ++ qs ++ b).length, 0) := by
    simp only [nat_back, str_app, List.append_assoc, List.drop_left' (codes_len a)]
    have := end_lt (i := a.length) (r := tl.cps.toList) hc hb
    rw [List.append_assoc] at this
    rw [show (PySem.Str.ofString "<").cps.toList = [60] from by decide +kernel, List.singleton_append, this]
    simp only [List.length_append, codes_len, str_len]
    congr 2 <;> first | omega | (congr 1; omega)
  obtain ⟨t1, t2, t3, e2⟩ := h.say_some e
  exact ⟨t1, t2, t3, e2⟩
theorem site_quote {ps : PySem.Str} (hp : Quote ps p) (hpq : Quo ps p) (hc : Shuts q wi qs) (hb : Level b.cps.toList) (ht : Clean p tl) (h : Res (scan q ((a ++ wi ++ qs ++ b ++ ps ++ tl).cps.toList.drop ((a.length : Nat) : Int).toNat) ((a.length : Nat) : Int).toNat) vs) :
    ∃ t2 t3, vs = [.none, .int (((a ++ wi ++ qs ++ b ++ ps ++ tl).length : Nat) : Int) t2, .str ps t3] := by
  refine h.say_none ?_ hpq
  obtain ⟨h1, h2⟩ := quote_codes hp
  have h3 : ps.length = 1 := by rw [← codes_len, h1]; rfl
  simp only [nat_back, str_app, List.append_assoc, List.drop_left' (codes_len a)]
  have := end_quote (i := a.length) (r := tl.cps.toList) hc hb h2 ht.off
  rw [List.append_assoc] at this
  rw [h1, List.singleton_append, this]
  simp only [List.length_append, codes_len, str_len, h3]
  congr 2; omega
theorem site_none (hc : Shuts q wi qs) (hb : Level b.cps.toList) (h : Res (scan q ((a ++ wi ++ qs ++ b).cps.toList.drop ((a.length : Nat) : Int).toNat) ((a.length : Nat) : Int).toNat) vs) :
    ∃ t2 t3, vs = [.none, .int (((a ++ wi ++ qs ++ b).length : Nat) : Int) t2, .str (PySem.Str.ofString "") t3] := by
  refine h.say_none ?_ .no
  simp only [nat_back, str_app, List.append_assoc, List.drop_left' (codes_len a)]
  have := end_none (i := a.length) hc hb
  rw [List.append_assoc] at this
  rw [this]
  simp only [List.length_append, codes_len, str_len]
  congr 2; omega
end
end Mine
namespace Mine
section
variable {prog : Program} {w : World} {p : Program} {loose : List Str} {mean : ExcName → Option Value} {mg mb : Str → Option Value}
  {dp un : Nat} {gd : Option (List Code)} {cn : Str} {cs : Scope} {a : Addr} {ccd : Value} {cl : List (Str × Addr)} {outer : List Env} {A₀ : Around} {base h₀ : Heap} {L : Addr} {m : Str → Option Value} {s : Shared} {Q E : Value → Shared → Prop}
  {l : Addr} {x y : Int} {tx ty : Tok} {n : Nat} {news : List (Addr × Obj)}
theorem body_use (B : Below A₀ base outer h₀) (F : Fr h₀ L s.heap m) (X : (Mine.hd.heap_39 w.params).In h₀) (N : News h₀ L s.heap ((l, srcObj x y tx ty n) :: news)) (hne : ∀ p ∈ news, p.1 ≠ l) (T : Top p loose mean mg mb h₀) (hk : cs.kind = .function)
    (hI : Inv x y) (hd : dp + 4 < recursionLimit) (hu : un + 8 * 4 < cLine)
    (ret : ∀ (r : PySem.Str) (u : Tok) (h' : Heap) (tk' : Nat) (x' y' : Int) (tx' ty' : Tok) (n' : Nat), Fr h₀ L h' m → News h₀ L h' ((l, srcObj x' y' tx' ty' n') :: news) → Inv x' y' → Level r.cps.toList → r.length ≤ 50 → Q (.str r u) { s with heap := h', toks := tk' }) :
    wpAny (model prog w) (ktrTop dp un gd cn cs L a ccd cl outer) (call (.ref 56) [.ref l]) Q E s := by
  refine body_ok prog w p loose mean mg mb dp un gd cn cs a ccd cl outer A₀ base h₀ L m s Q E l x y tx ty n news B F X N (fun _ h => nomatch h) hne T hk hI hd hu ?_
  rintro v h' tk' x' y' tx' ty' n' F' N' I' ⟨r, u, rfl, hr, hl⟩
  exact ret r u h' tk' x' y' tx' ty' n' F' N' I' hr hl
theorem tag_use {text : PySem.Str} {tt : Tok} {i : Int} {ti : Tok} {qs : PySem.Str} {tq : Tok} {q : Nat} (B : Below A₀ base outer h₀) (F : Fr h₀ L s.heap m) (X : (Mine.hd.heap_39 w.params).In h₀) (N : News h₀ L s.heap news) (T : Top p loose mean mg mb h₀) (hk : cs.kind = .function)
    (hq : Quo qs q) (h0 : 0 ≤ i) (h1 : i ≤ (text.length : Int)) (hl : text.length ≤ 1000) (hd : dp + 1 < recursionLimit) (hu : un + 8 < cLine)
    (ret : ∀ (t : Addr) (vs : List Value) (h' : Heap) (tk' : Nat), Fr h₀ L h' m → News h₀ L h' ((t, tupObj vs) :: news) → (∀ p ∈ news, p.1 < t) → Res (scan q (text.cps.toList.drop i.toNat) i.toNat) vs → Q (.ref t) { s with heap := h', toks := tk' }) :
    wpAny (model prog w) (ktrTop dp un gd cn cs L a ccd cl outer) (call (.ref 21) [.str text tt, .int i ti, .str qs tq]) Q E s :=
  tag_ok prog w p loose mean mg mb text tt i ti qs tq q hq h0 h1 hl dp un gd cn cs a ccd cl outer A₀ base h₀ L m s Q E news B F X N T hk hd hu ret
end
theorem news_tail {h₀ h : Heap} {L : Addr} {p : Addr × Obj} {news : List (Addr × Obj)} (N : News h₀ L h (p :: news)) : News h₀ L h news := fun r hr => N r (.tail _ hr)
theorem quo4 {r : PySem.Str} (h : r ∈ [PySem.Str.ofString "", PySem.Str.ofString "", PySem.Str.ofString "\"", PySem.Str.ofString "'"]) : r = PySem.Str.ofString "" ∨ r = PySem.Str.ofString "\"" ∨ r = PySem.Str.ofString "'" := by
  rcases List.mem_cons.mp h with rfl | h
  · exact .inl rfl
  · rcases List.mem_cons.mp h with rfl | h
    · exact .inl rfl
    · rcases List.mem_cons.mp h with rfl | h
      · exact .inr (.inl rfl)
      · exact .inr (.inr (List.mem_singleton.mp h))
theorem quo2 {r : PySem.Str} (h : r ∈ [PySem.Str.ofString "\"", PySem.Str.ofString "'"]) : r = PySem.Str.ofString "\"" ∨ r = PySem.Str.ofString "'" := by
  rcases List.mem_cons.mp h with rfl | h
  · exact .inl rfl
  · exact .inr (List.mem_singleton.mp h)
theorem Texts.length {vs : List Value} {xs : List PySem.Str} (h : Texts vs xs) : vs.length = xs.length := by
  induction h with
  | nil => rfl
  | cons _ ih => rw [List.length_cons, List.length_cons, ih]
section
variable {prog : Program} {w : World} {p : Program} {loose : List Str} {mean : ExcName → Option Value} {mg mb : Str → Option Value}
  {dp un : Nat} {gd : Option (List Code)} {cn : Str} {cs : Scope} {a : Addr} {ccd : Value} {cl : List (Str × Addr)} {outer : List Env} {A₀ : Around} {base h₀ : Heap} {L : Addr} {m : Str → Option Value} {s : Shared} {Q E : Value → Shared → Prop}
  {l : Addr} {x y : Int} {tx ty : Tok} {n : Nat} {news : List (Addr × Obj)}
abbrev RetStr (h₀ : Heap) (L : Addr) (m : Str → Option Value) (l : Addr) (news : List (Addr × Obj)) (s : Shared) (Q : Value → Shared → Prop) (r : PySem.Str) : Prop :=
  ∀ (u : Tok) (h' : Heap) (tk' : Nat) (x' y' : Int) (tx' ty' : Tok) (n' : Nat), Fr h₀ L h' m → News h₀ L h' ((l, srcObj x' y' tx' ty' n') :: news) → Inv x' y' → Q (.str r u) { s with heap := h', toks := tk' }
theorem one_use4 {t : Addr} {its : List Value} {nt : Nat} (B : Below A₀ base outer h₀) (F : Fr h₀ L s.heap m) (X : (Mine.hd.heap_39 w.params).In h₀) (N : News h₀ L s.heap ((t, listOf its.toArray nt) :: (l, srcObj x y tx ty n) :: news)) (htl : t ≠ l) (hne : ∀ p ∈ news, p.1 ≠ l) (T : Top p loose mean mg mb h₀) (hk : cs.kind = .function)
    (hI : Inv x y) (hx : Texts its [PySem.Str.ofString "", PySem.Str.ofString "", PySem.Str.ofString "\"", PySem.Str.ofString "'"]) (hd : dp + 2 < recursionLimit) (hu : un + 8 * 2 < cLine)
    (r0 : RetStr h₀ L m l news s Q (PySem.Str.ofString "")) (r1 : RetStr h₀ L m l news s Q (PySem.Str.ofString "\"")) (r2 : RetStr h₀ L m l news s Q (PySem.Str.ofString "'")) :
    wpAny (model prog w) (ktrTop dp un gd cn cs L a ccd cl outer) (call (.ref 42) [.ref l, .ref t]) Q E s := by
  have hlen := hx.length
  refine one_use B F X N htl hne T hk hI hx (by decide +kernel) (by rw [hlen]; decide) (by rw [hlen]; decide) hd hu ?_
  intro r u h' tk' x' y' tx' ty' n' F' N' I' hr _
  rcases quo4 hr with rfl | rfl | rfl
  · exact r0 u h' tk' x' y' tx' ty' n' F' N' I'
  · exact r1 u h' tk' x' y' tx' ty' n' F' N' I'
  · exact r2 u h' tk' x' y' tx' ty' n' F' N' I'
theorem one_use2 {t : Addr} {its : List Value} {nt : Nat} (B : Below A₀ base outer h₀) (F : Fr h₀ L s.heap m) (X : (Mine.hd.heap_39 w.params).In h₀) (N : News h₀ L s.heap ((t, listOf its.toArray nt) :: (l, srcObj x y tx ty n) :: news)) (htl : t ≠ l) (hne : ∀ p ∈ news, p.1 ≠ l) (T : Top p loose mean mg mb h₀) (hk : cs.kind = .function)
    (hI : Inv x y) (hx : Texts its [PySem.Str.ofString "\"", PySem.Str.ofString "'"]) (hd : dp + 2 < recursionLimit) (hu : un + 8 * 2 < cLine)
    (r1 : RetStr h₀ L m l news s Q (PySem.Str.ofString "\"")) (r2 : RetStr h₀ L m l news s Q (PySem.Str.ofString "'")) :
    wpAny (model prog w) (ktrTop dp un gd cn cs L a ccd cl outer) (call (.ref 42) [.ref l, .ref t]) Q E s := by
  have hlen := hx.length
  refine one_use B F X N htl hne T hk hI hx (by decide +kernel) (by rw [hlen]; decide) (by rw [hlen]; decide) hd hu ?_
  intro r u h' tk' x' y' tx' ty' n' F' N' I' hr _
  rcases quo2 hr with rfl | rfl
  · exact r1 u h' tk' x' y' tx' ty' n' F' N' I'
  · exact r2 u h' tk' x' y' tx' ty' n' F' N' I'
end
theorem len_no : (PySem.Str.ofString "").length = 0 := by decide +kernel
theorem len_gt : (PySem.Str.ofString ">").length = 1 := by decide +kernel
theorem len_lt : (PySem.Str.ofString "<").length = 1 := by decide +kernel
theorem len_two : (PySem.Str.ofString "\"").length = 1 := by decide +kernel
theorem len_one : (PySem.Str.ofString "'").length = 1 := by decide +kernel
local macro_rules | `(tactic| walk_at "call ref") => `(tactic| (k_here; (with_reducible show wpAny _ _ (call (Value.ref 35) _) _ _ _); k_dflt (refine' take_use ?k1 ?k2 ?k3 ?k4 ?k5 ?k6 ?k7 ?k8 ?k9 ?k10 ?kd ?ku ?_; (case k1 => k_asm); (case k2 => k_asm); (case k3 => k_asm); (case k4 => first | k_asm | exact news_tail (by k_asm) | exact news_tail (news_tail (by k_asm))); (case k5 => k_asm); (case k6 => k_asm); (case k7 => first | exact rfl | assumption); (case k8 => k_asm); (case k9 => first | decide | omega); (case k10 => first | decide | omega); (case kd => ktr_room); (case ku => ktr_units); k_whole); intro r' t' h' tk' x' y' tx' ty' n' F' N' I' r0' r1'; (try k_sweep); (try dsimp only); (try k_fold)))
local macro_rules | `(tactic| walk_at "call ref") => `(tactic| (k_here; (with_reducible show wpAny _ _ (call (Value.ref 42) _) _ _ _); k_dflt (refine' one_use ?k1 ?k2 ?k3 ?k4 ?k5 ?k6 ?k7 ?k8 ?k9 ?k10 ?k13 ?k11 ?k12 ?kd ?ku ?_; (case k1 => k_asm); (case k2 => k_asm); (case k3 => k_asm); (case k4 => first | k_asm | exact news_drop2 (by k_asm) | exact news_drop2 (news_drop2 (by k_asm))); (case k5 => k_ne); (case k6 => k_asm); (case k7 => k_asm); (case k8 => first | exact rfl | assumption); (case k9 => k_asm); (case k10 => repeat constructor); (case k13 => decide +kernel); (case k11 => first | decide | (simp; done)); (case k12 => first | decide | (simp; done)); (case kd => ktr_room); (case ku => ktr_units); k_whole); intro r' u' h' tk' x' y' tx' ty' n' F' N' I' hr' hl'; (try k_sweep); (try dsimp only); (try k_fold)))
local macro_rules | `(tactic| walk_at "call ref") => `(tactic| (k_here; (with_reducible show wpAny _ _ (call (Value.ref 42) _) _ _ _); k_dflt (refine' one_use2 ?k1 ?k2 ?k3 ?k4 ?k5 ?k6 ?k7 ?k8 ?k9 ?k10 ?kd ?ku ?_ ?_; (case k1 => k_asm); (case k2 => k_asm); (case k3 => k_asm); (case k4 => first | k_asm | exact news_drop2 (by k_asm) | exact news_drop2 (news_drop2 (by k_asm))); (case k5 => k_ne); (case k6 => k_asm); (case k7 => k_asm); (case k8 => first | exact rfl | assumption); (case k9 => k_asm); (case k10 => with_reducible repeat constructor); (case kd => ktr_room); (case ku => ktr_units)); all_goals (intro u' h' tk' x' y' tx' ty' n' F' N' I'; (try k_sweep); (try dsimp only); (try k_fold))))
local macro_rules | `(tactic| walk_at "call ref") => `(tactic| (k_here; (with_reducible show wpAny _ _ (call (Value.ref 42) _) _ _ _); k_dflt (refine' one_use4 ?k1 ?k2 ?k3 ?k4 ?k5 ?k6 ?k7 ?k8 ?k9 ?k10 ?kd ?ku ?_ ?_ ?_; (case k1 => k_asm); (case k2 => k_asm); (case k3 => k_asm); (case k4 => first | k_asm | exact news_drop2 (by k_asm) | exact news_drop2 (news_drop2 (by k_asm))); (case k5 => k_ne); (case k6 => k_asm); (case k7 => k_asm); (case k8 => first | exact rfl | assumption); (case k9 => k_asm); (case k10 => with_reducible repeat constructor); (case kd => ktr_room); (case ku => ktr_units)); all_goals (intro u' h' tk' x' y' tx' ty' n' F' N' I'; (try k_sweep); (try dsimp only); (try k_fold))))
local macro_rules | `(tactic| walk_at "call ref") => `(tactic| (k_here; (with_reducible show wpAny _ _ (call (Value.ref 49) _) _ _ _); k_dflt (refine' within_use ?k1 ?k2 ?k3 ?k4 ?k5 ?k6 ?k7 ?k8 ?k9 ?kd ?ku ?_; (case k1 => k_asm); (case k2 => k_asm); (case k3 => k_asm); (case k4 => first | k_asm | exact news_tail (by k_asm) | exact news_tail (news_tail (by k_asm))); (case k5 => k_asm); (case k6 => k_asm); (case k7 => first | exact rfl | assumption); (case k8 => k_asm); (case k9 => first | exact Quote.two | exact Quote.one); (case kd => ktr_room); (case ku => ktr_units); k_whole); intro r' u' h' tk' x' y' tx' ty' n' F' N' I' hr' hl'; (try k_sweep); (try dsimp only); (try k_fold)))
local macro_rules | `(tactic| walk_at "call ref") => `(tactic| (k_here; (with_reducible show wpAny _ _ (call (Value.ref 56) _) _ _ _); k_dflt (refine' body_use ?k1 ?k2 ?k3 ?k4 ?k5 ?k6 ?k7 ?k8 ?kd ?ku ?_; (case k1 => k_asm); (case k2 => k_asm); (case k3 => k_asm); (case k4 => first | k_asm | exact news_tail (by k_asm) | exact news_tail (news_tail (by k_asm))); (case k5 => k_asm); (case k6 => k_asm); (case k7 => first | exact rfl | assumption); (case k8 => k_asm); (case kd => ktr_room); (case ku => ktr_units); k_whole); intro r' u' h' tk' x' y' tx' ty' n' F' N' I' hr' hl'; (try k_sweep); (try dsimp only); (try k_fold)))
local macro_rules | `(tactic| walk_at "call ref") => `(tactic| (k_here; (with_reducible show wpAny _ _ (call (Value.ref 21) _) _ _ _); k_dflt (refine' tag_use ?k1 ?k2 ?k3 ?k4 ?k5 ?k6 ?k7 ?k8 ?k9 ?k10 ?kd ?ku ?_; (case k1 => k_asm); (case k2 => k_asm); (case k3 => k_asm); (case k4 => k_asm); (case k5 => k_asm); (case k6 => first | exact rfl | assumption); (case k7 => with_reducible (first | exact Quo.no | exact Quo.two | exact Quo.one)); (case k8 => omega); (case k9 => (simp only [str_len, len_no, len_gt, len_lt, len_two, len_one]; omega)); (case k10 => (simp only [str_len, len_no, len_gt, len_lt, len_two, len_one]; omega)); (case kd => ktr_room); (case ku => ktr_units); k_whole); intro t' vs' h' tk' F' N' l1' hR'; (try k_sweep); (first | ((with_reducible rename Res (scan 0 (List.drop _ (_ ++ PySem.Str.ofString ">" ++ _ : PySem.Str).cps.toList) _) _ => hS9); have hS' := site_gt shuts_no (by assumption) hS9; obtain ⟨t1, t2, t3, e9⟩ := hS'; subst e9) | ((with_reducible rename Res (scan 34 (List.drop _ (_ ++ PySem.Str.ofString ">" ++ _ : PySem.Str).cps.toList) _) _ => hS9); have hS' := site_gt (shuts_two (by assumption)) (by assumption) hS9; obtain ⟨t1, t2, t3, e9⟩ := hS'; subst e9) | ((with_reducible rename Res (scan 39 (List.drop _ (_ ++ PySem.Str.ofString ">" ++ _ : PySem.Str).cps.toList) _) _ => hS9); have hS' := site_gt (shuts_one (by assumption)) (by assumption) hS9; obtain ⟨t1, t2, t3, e9⟩ := hS'; subst e9) | ((with_reducible rename Res (scan 0 (List.drop _ (_ ++ PySem.Str.ofString "<" ++ _ : PySem.Str).cps.toList) _) _ => hS9); have hS' := site_lt shuts_no (by assumption) hS9; obtain ⟨t1, t2, t3, e9⟩ := hS'; subst e9) | ((with_reducible rename Res (scan 34 (List.drop _ (_ ++ PySem.Str.ofString "<" ++ _ : PySem.Str).cps.toList) _) _ => hS9); have hS' := site_lt (shuts_two (by assumption)) (by assumption) hS9; obtain ⟨t1, t2, t3, e9⟩ := hS'; subst e9) | ((with_reducible rename Res (scan 39 (List.drop _ (_ ++ PySem.Str.ofString "<" ++ _ : PySem.Str).cps.toList) _) _ => hS9); have hS' := site_lt (shuts_one (by assumption)) (by assumption) hS9; obtain ⟨t1, t2, t3, e9⟩ := hS'; subst e9) | ((with_reducible rename Res (scan 0 (List.drop _ (_ ++ _ ++ _ ++ _ ++ PySem.Str.ofString "\"" ++ _ : PySem.Str).cps.toList) _) _ => hS9); have hS' := site_quote .two .two shuts_no (by assumption) (by assumption) hS9; obtain ⟨t2, t3, e9⟩ := hS'; subst e9) | ((with_reducible rename Res (scan 34 (List.drop _ (_ ++ _ ++ _ ++ _ ++ PySem.Str.ofString "\"" ++ _ : PySem.Str).cps.toList) _) _ => hS9); have hS' := site_quote .two .two (shuts_two (by assumption)) (by assumption) (by assumption) hS9; obtain ⟨t2, t3, e9⟩ := hS'; subst e9) | ((with_reducible rename Res (scan 39 (List.drop _ (_ ++ _ ++ _ ++ _ ++ PySem.Str.ofString "\"" ++ _ : PySem.Str).cps.toList) _) _ => hS9); have hS' := site_quote .two .two (shuts_one (by assumption)) (by assumption) (by assumption) hS9; obtain ⟨t2, t3, e9⟩ := hS'; subst e9) | ((with_reducible rename Res (scan 0 (List.drop _ (_ ++ _ ++ _ ++ _ ++ PySem.Str.ofString "'" ++ _ : PySem.Str).cps.toList) _) _ => hS9); have hS' := site_quote .one .one shuts_no (by assumption) (by assumption) hS9; obtain ⟨t2, t3, e9⟩ := hS'; subst e9) | ((with_reducible rename Res (scan 34 (List.drop _ (_ ++ _ ++ _ ++ _ ++ PySem.Str.ofString "'" ++ _ : PySem.Str).cps.toList) _) _ => hS9); have hS' := site_quote .one .one (shuts_two (by assumption)) (by assumption) (by assumption) hS9; obtain ⟨t2, t3, e9⟩ := hS'; subst e9) | ((with_reducible rename Res (scan 39 (List.drop _ (_ ++ _ ++ _ ++ _ ++ PySem.Str.ofString "'" ++ _ : PySem.Str).cps.toList) _) _ => hS9); have hS' := site_quote .one .one (shuts_one (by assumption)) (by assumption) (by assumption) hS9; obtain ⟨t2, t3, e9⟩ := hS'; subst e9) | ((with_reducible rename Res (scan 0 (List.drop _ (_ ++ _ ++ _ ++ _ : PySem.Str).cps.toList) _) _ => hS9); have hS' := site_none shuts_no (by assumption) hS9; obtain ⟨t2, t3, e9⟩ := hS'; subst e9) | ((with_reducible rename Res (scan 34 (List.drop _ (_ ++ _ ++ _ ++ _ : PySem.Str).cps.toList) _) _ => hS9); have hS' := site_none (shuts_two (by assumption)) (by assumption) hS9; obtain ⟨t2, t3, e9⟩ := hS'; subst e9) | ((with_reducible rename Res (scan 39 (List.drop _ (_ ++ _ ++ _ ++ _ : PySem.Str).cps.toList) _) _ => hS9); have hS' := site_none (shuts_one (by assumption)) (by assumption) hS9; obtain ⟨t2, t3, e9⟩ := hS'; subst e9) | ((with_reducible rename Res (scan 34 (List.drop _ (_ ++ _ : PySem.Str).cps.toList) _) _ => hS9); have hS' := site_open (by decide) .two (by assumption) hS9; obtain ⟨t2, t3, e9⟩ := hS'; subst e9) | ((with_reducible rename Res (scan 39 (List.drop _ (_ ++ _ : PySem.Str).cps.toList) _) _ => hS9); have hS' := site_open (by decide) .one (by assumption) hS9; obtain ⟨t2, t3, e9⟩ := hS'; subst e9)); (try dsimp only); (try k_fold)))
local macro_rules | `(tactic| walk_at "compareOp Eq ref ref") => `(tactic| (k_here; (with_reducible show wpAny _ _ (compareOp CmpOp.Eq (Value.ref _) (Value.ref _)) _ _ _); k_dflt (refine' tup_eq ?k1 ?k2 ?k3 ?k4 ?k5 ?_; (case k1 => k_asm); (case k2 => k_mem); (case k3 => k_mem); (case k4 => ktr_units); (case k5 => ((first | ((with_reducible show Same (Value.none :: _) _); with_reducible (refine Same.none (Same.int ?_ (Same.str ?_ Same.nil)))) | ((with_reducible show Same (Value.int _ _ :: _) _); with_reducible (refine Same.int ?_ (Same.int ?_ (Same.str ?_ Same.nil))))); all_goals (first | with_reducible rfl | (simp only [str_len]; done) | (simp only [str_len]; omega)))); k_whole)))
theorem right_ok (prog : Program) (w : World) (p : Program) (loose : List Str) (mean : ExcName → Option Value) (mg mb : Str → Option Value) :
    Ct prog w (Mine.hd.heap_39 w.params) p loose mean mg mb 63 5 [] (fun l => [.ref l]) (fun v => v = .bool true) := by
  unfold Ct
  intro dp un gd cn cs a ccd cl outer A₀ base h₀ L m s Q E l x y tx ty n news B F X N hpre hne T hk hI hd hu hret
  rw [List.nil_append] at N
  clear hpre
  refine fillit PySem.Challenge.rw_xw0197_01 Mine.hd.heap_39 ?_
  k_fill
  intro _
  refine wpAny_call ?_
  k_dflt cell_enter
  k_steps
  all_goals exact hret _ _ _ _ _ _ _ _ (by k_asm) (by first | exact news_tail (news_tail (by k_asm)) | exact news_tail (news_tail (news_tail (by k_asm)))) (by k_asm) rfl
end Mine
namespace Mine
theorem pool_inv {c z : Int} {b : Bool} : Inv ((if -1 - c > c then -1 - c else c) * (if b = true then 1 else 0)) (z.fmod 2147483647) := by
  refine ⟨Int.mul_nonneg ?_ ?_, fm_lo _ (by decide), fm_hi _ (by decide)⟩
  · split <;> omega
  · split <;> decide
section
variable {prog : Program} {w : World} {p : Program} {loose : List Str} {mean : ExcName → Option Value} {mg mb : Str → Option Value}
  {dp un : Nat} {gd : Option (List Code)} {cn : Str} {cs : Scope} {a : Addr} {ccd : Value} {cl : List (Str × Addr)} {outer : List Env} {A₀ : Around} {base h₀ : Heap} {L : Addr} {m : Str → Option Value} {s : Shared} {Q E : Value → Shared → Prop}
  {l : Addr} {x y : Int} {tx ty : Tok} {n : Nat} {news : List (Addr × Obj)}
theorem right_use (B : Below A₀ base outer h₀) (F : Fr h₀ L s.heap m) (X : (Mine.hd.heap_39 w.params).In h₀) (N : News h₀ L s.heap ((l, srcObj x y tx ty n) :: news)) (hne : ∀ p ∈ news, p.1 ≠ l) (T : Top p loose mean mg mb h₀) (hk : cs.kind = .function)
    (hI : Inv x y) (hd : dp + 5 < recursionLimit) (hu : un + 8 * 5 < cLine)
    (ret : ∀ (h' : Heap) (tk' : Nat) (x' y' : Int) (tx' ty' : Tok) (n' : Nat), Fr h₀ L h' m → News h₀ L h' ((l, srcObj x' y' tx' ty' n') :: news) → Inv x' y' → Q (.bool true) { s with heap := h', toks := tk' }) :
    wpAny (model prog w) (ktrTop dp un gd cn cs L a ccd cl outer) (call (.ref 63) [.ref l]) Q E s := by
  refine right_ok prog w p loose mean mg mb dp un gd cn cs a ccd cl outer A₀ base h₀ L m s Q E l x y tx ty n news B F X N (fun _ h => nomatch h) hne T hk hI hd hu ?_
  rintro v h' tk' x' y' tx' ty' n' F' N' I' rfl
  exact ret h' tk' x' y' tx' ty' n' F' N' I'
end
local macro_rules | `(tactic| walk_at "call ref") => `(tactic| (k_here; (with_reducible show wpAny _ _ (call (Value.ref 63) _) _ _ _); k_dflt (refine' right_use ?k1 ?k2 ?k3 ?k4 ?k5 ?k6 ?k7 ?k8 ?kd ?ku ?_; (case k1 => k_asm); (case k2 => k_asm); (case k3 => k_asm); (case k4 => k_asm); (case k5 => k_all); (case k6 => k_asm); (case k7 => first | exact rfl | assumption); (case k8 => first | k_asm | exact pool_inv); (case kd => ktr_room); (case ku => ktr_units); k_whole); intro h' tk' x' y' tx' ty' n' F' N' I'; (try k_sweep); (try dsimp only); (try k_fold)))
local macro_rules | `(tactic| walk_at "exec For Tuple BinOp cons nil") => `(tactic| (k_here; (rename Fr _ _ _ _ => lF'); (with_unfolding_all refine' For_turns lF' ?_; k_whole)))
local macro_rules | `(tactic| walk_at "call ref") => `(tactic| (k_here; (with_reducible show wpAny _ _ (call (Value.ref 21) _) _ _ _); k_dflt (refine' tag_use ?k1 ?k2 ?k3 ?k4 ?k5 ?k6 ?k7 ?k8 ?k9 ?k10 ?kd ?ku ?_; (case k1 => k_asm); (case k2 => k_asm); (case k3 => k_asm); (case k4 => k_asm); (case k5 => k_asm); (case k6 => first | exact rfl | assumption); (case k7 => with_reducible (first | exact Quo.no | exact Quo.two | exact Quo.one)); (case k8 => decide); (case k9 => decide +kernel); (case k10 => decide +kernel); (case kd => ktr_room); (case ku => ktr_units); k_whole); intro t' vs' h' tk' F' N' l1' hR'; (try k_lt l1'); (try k_sweep); (first | (have hS' := Res.say_some (k := 9) (i := 8) hR' (by decide +kernel); obtain ⟨t1, t2, t3, e9⟩ := hS'; subst e9) | (have hS' := Res.say_some (k := 3) (i := 3) hR' (by decide +kernel); obtain ⟨t1, t2, t3, e9⟩ := hS'; subst e9) | (have hS' := Res.say_none (i := 5) (q := 34) hR' (by decide +kernel) Quo.two; obtain ⟨t2, t3, e9⟩ := hS'; subst e9) | (have hS' := Res.say_some (k := 4) (i := 3) hR' (by decide +kernel); obtain ⟨t1, t2, t3, e9⟩ := hS'; subst e9) | (have hS' := Res.say_none (i := 2) (q := 0) hR' (by decide +kernel) Quo.no; obtain ⟨t2, t3, e9⟩ := hS'; subst e9) | (have hS' := Res.say_none (i := 1) (q := 39) hR' (by decide +kernel) Quo.one; obtain ⟨t2, t3, e9⟩ := hS'; subst e9) | (have hS' := Res.say_none (i := 0) (q := 39) hR' (by decide +kernel) Quo.one; obtain ⟨t2, t3, e9⟩ := hS'; subst e9)); clear hR'; (try dsimp only); (try k_fold)))
local macro_rules | `(tactic| walk_at "compareOp NotEq ref ref") => `(tactic| (k_here; (with_reducible show wpAny _ _ (compareOp CmpOp.NotEq (Value.ref _) (Value.ref _)) _ _ _); k_dflt (refine' tup_ne ?k1 ?k2 ?k3 ?k4 ?k5 ?_; (case k1 => k_asm); (case k2 => k_mem); (case k3 => k_mem); (case k4 => ktr_units); (case k5 => ((first | ((with_reducible show Same (Value.none :: _) _); with_reducible (refine Same.none (Same.int ?_ (Same.str ?_ Same.nil)))) | ((with_reducible show Same (Value.int _ _ :: _) _); with_reducible (refine Same.int ?_ (Same.int ?_ (Same.str ?_ Same.nil))))); all_goals (first | with_reducible rfl | decide))); k_whole)))
theorem law_holds : PySem.Challenge.rw_xw0197_01.Holds := Mine.hd (by
  k_go0
  all_goals try k_fold
  k_steps)
end Mine
theorem PySem.Challenge.cw_xw0197_01_holds : PySem.Challenge.rw_xw0197_01.Holds := by
  exact Mine.law_holds
