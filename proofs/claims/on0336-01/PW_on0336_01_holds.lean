import PyProof.Rows.All
import Wide.All
import OpenK.AllK
import Wide.FinOn
import Lean
import PySem.Challenge.RW_on0336_01
open PySem PySem.W PyProof.Rows PySem.Spec PySem.Calls
set_option Elab.async false
set_option linter.unusedVariables false
set_option linter.unusedSimpArgs false
namespace Cg
section
set_option maxRecDepth 100000 in
set_option maxHeartbeats 8000000 in
open_top hd for PySem.Challenge.rw_on0336_01
end
section
local macro_rules | `(tactic| k_all) => `(tactic| assumption)
local macro_rules | `(tactic| walk_at "subscriptTail Name Constant ref int") => `(tactic| (k_here; (with_reducible show wpAny _ _ (subscriptTail _ _ (Value.ref _) (Value.int _ _)) _ _ _); (with_unfolding_all refine' item_litK ?k1 ?k2 ?k3 ?k4 ?_ ?k6; (case k1 => is_list); (case k2 => decide); (case k3 => decide); (case k4 => rfl); (case k6 => with_unfolding_all rfl); k_whole)))
theorem fm_lo {a b : Int} (h : 0 < b) : 0 ≤ a.fmod b := Int.fmod_nonneg_of_pos a h
theorem fm_hi {a b : Int} (h : 0 < b) : a.fmod b < b := Int.fmod_lt_of_pos a h
set_option maxRecDepth 100000 in
set_option maxHeartbeats 2000000 in
theorem take_c (w : World) {loose : List Str} {mean : ExcName → Option Value} {mg mb : Str → Option Value}
  {dp un : Nat} {gd : Option (List Code)} {cn : Str} {cs : Scope} {a : Addr} {ccd : Value} {cl : List (Str × Addr)} {outer : List Env} {A₀ : Around} {base h₀ : Heap} {L : Addr} {m : Str → Option Value} {news : List (Addr × Obj)} {s : Shared} {l : Addr} {n : Nat} {x y top : Int} {tx ty tt : Tok} {Q E : Value → Shared → Prop}
  (B : Below A₀ base outer h₀) (F : Fr h₀ L s.heap m) (X : (hd.heap_39 w.params).In h₀) (N : News h₀ L s.heap ((l, listOf #[.int x tx, .int y ty] n) :: news)) (hne : ∀ p ∈ news, p.1 ≠ l) (T : Top hd.view_39 loose mean mg mb h₀) (hk : cs.kind = .function)
  (h1 : 0 < top) (h2 : top < 1000) (hx : 0 ≤ x) (hy : 0 ≤ y) (hy2 : y < 2147483647) (hdp : dp + 1 < recursionLimit)
  (hret : ∀ r x' y' t t1 t2 h' tk', Fr h₀ L h' m → News h₀ L h' ((l, listOf #[.int x' t1, .int y' t2] n) :: news) → 0 ≤ r → r < top → 0 ≤ x' → 0 ≤ y' → y' < 2147483647 → Q (.int r t) { s with heap := h', toks := tk' }) :
  wpAny (model PySem.Challenge.rw_on0336_01.row.prog w) (ktrTop dp un gd cn cs L a ccd cl outer) (call (.ref 119) [.ref l, .int top tt]) Q E s := by
  revert X; k_fill; intro X
  refine wpAny_call ?_
  k_dflt cell_enter
  k_steps
  · exact hret _ _ _ _ _ _ _ _ (by k_asm) (by k_asm) (fm_lo h1) (fm_hi h1) (Int.fdiv_nonneg hx (Int.le_of_lt h1)) hy hy2
  · exact hret _ _ _ _ _ _ _ _ (by k_asm) (by k_asm) (fm_lo h1) (fm_hi h1) hx (fm_lo (by decide)) (fm_hi (by decide))

inductive Pick (d : Addr) (o : Obj) : List (Addr × Obj) → List (Addr × Obj) → Prop
  | head {r : List (Addr × Obj)} (h : ∀ p ∈ r, p.1 ≠ d) : Pick d o ((d, o) :: r) r
  | tail {p : Addr × Obj} {r r' : List (Addr × Obj)} (h : p.1 ≠ d) (k : Pick d o r r') : Pick d o (p :: r) (p :: r')
theorem Pick.off {d : Addr} {o : Obj} {a b : List (Addr × Obj)} (h : Pick d o a b) : ∀ p ∈ b, p.1 ≠ d := by
  induction h with
  | head h => exact h
  | tail h _ ih => intro p hp; rcases List.mem_cons.mp hp with rfl | hp; exact h; exact ih p hp
theorem Pick.sub {d : Addr} {o : Obj} {a b : List (Addr × Obj)} (h : Pick d o a b) : ∀ p ∈ (d, o) :: b, p ∈ a := by
  induction h with
  | head h => exact fun p hp => hp
  | tail h _ ih =>
    intro p hp
    rcases List.mem_cons.mp hp with rfl | hp
    · exact .tail _ (ih _ (.head _))
    · rcases List.mem_cons.mp hp with rfl | hp
      · exact .head _
      · exact .tail _ (ih _ (.tail _ hp))
theorem Pick.news {d : Addr} {o : Obj} {a b : List (Addr × Obj)} {h₀ h : Heap} {L : Addr} (k : Pick d o a b) (N : News h₀ L h a) : News h₀ L h ((d, o) :: b) := fun p hp => N p (k.sub p hp)
end
section
local macro_rules | `(tactic| k_all) => `(tactic| assumption)
local macro_rules | `(tactic| k_mem) => `(tactic| assumption)
local macro_rules | `(tactic| news_mem) => `(tactic| exact List.Mem.tail _ (by assumption))
local macro_rules | `(tactic| k_upd) => `(tactic| first | (refine' Pick.head ?a; (case a => k_all)) | (refine' Pick.tail ?a ?b; (case a => k_ne); (case b => k_upd)))
theorem take_u {w : World} {loose : List Str} {mean : ExcName → Option Value} {mg mb : Str → Option Value}
  {dp un : Nat} {gd : Option (List Code)} {cn : Str} {cs : Scope} {a : Addr} {ccd : Value} {cl : List (Str × Addr)} {outer : List Env} {A₀ : Around} {base h₀ : Heap} {L : Addr} {m : Str → Option Value} {led news : List (Addr × Obj)} {s : Shared} {l : Addr} {n : Nat} {x y top : Int} {tx ty tt : Tok} {Q E : Value → Shared → Prop}
  (B : Below A₀ base outer h₀) (F : Fr h₀ L s.heap m) (X : (hd.heap_39 w.params).In h₀) (N : News h₀ L s.heap led) (P : Pick l (listOf #[.int x tx, .int y ty] n) led news) (T : Top hd.view_39 loose mean mg mb h₀) (hk : cs.kind = .function)
  (h1 : 0 < top) (h2 : top < 1000) (hx : 0 ≤ x) (hy : 0 ≤ y) (hy2 : y < 2147483647) (hdp : dp + 1 < recursionLimit)
  (hret : ∀ r x' y' t t1 t2 h' tk', Fr h₀ L h' m → News h₀ L h' ((l, listOf #[.int x' t1, .int y' t2] n) :: news) → 0 ≤ r → r < top → 0 ≤ x' → 0 ≤ y' → y' < 2147483647 → Q (.int r t) { s with heap := h', toks := tk' }) :
  wpAny (model PySem.Challenge.rw_on0336_01.row.prog w) (ktrTop dp un gd cn cs L a ccd cl outer) (call (.ref 119) [.ref l, .int top tt]) Q E s :=
  take_c w B F X (P.news N) P.off T hk h1 h2 hx hy hy2 hdp hret
local macro_rules | `(tactic| walk_at "call ref") => `(tactic| (k_here; (with_reducible show wpAny _ _ (call (Value.ref 119) [Value.ref _, Value.int _ _]) _ _ _); k_dflt (refine' take_u ?k1 ?k2 ?k3 ?k4 ?kP ?k5 ?k6 ?k7 ?k8 ?k9 ?k10 ?k11 ?k12 ?_; (case k1 => k_asm); (case k2 => k_asm); (case k3 => k_asm); (case k4 => k_asm); (case kP => k_upd); (case k5 => k_asm); (case k6 => first | exact rfl | assumption); (case k7 => first | decide | omega); (case k8 => first | decide | omega); (case k9 => first | assumption | omega); (case k10 => first | assumption | omega); (case k11 => first | assumption | omega); (case k12 => ktr_room); k_whole; intro r9 x9 y9 t9 u9 v9 h9 tk9 F9 N9 r1 r2 x1 y1 y2; (try k_fold))))
theorem getD_mem {ns : List Int} {i : Nat} (h : i < ns.length) : ns.getD i 0 ∈ ns := by
  rw [List.getD_eq_getElem?_getD, List.getElem?_eq_getElem h]
  exact List.getElem_mem h
set_option maxRecDepth 100000 in
set_option maxHeartbeats 2000000 in
theorem onei_c (w : World) {loose : List Str} {mean : ExcName → Option Value} {mg mb : Str → Option Value}
  {dp un : Nat} {gd : Option (List Code)} {cn : Str} {cs : Scope} {a : Addr} {ccd : Value} {cl : List (Str × Addr)} {outer : List Env} {A₀ : Around} {base h₀ : Heap} {L : Addr} {m : Str → Option Value} {news : List (Addr × Obj)} {s : Shared} {l q : Addr} {n n2 : Nat} {x y : Int} {tx ty : Tok} {vs : List Value} {ns : List Int} {Q E : Value → Shared → Prop}
  (B : Below A₀ base outer h₀) (F : Fr h₀ L s.heap m) (X : (hd.heap_39 w.params).In h₀) (N : News h₀ L s.heap ((l, listOf #[.int x tx, .int y ty] n) :: news)) (hne : ∀ p ∈ news, p.1 ≠ l) (hq : (q, listOf vs.toArray n2) ∈ news) (hi : IntsAre vs ns) (h0 : 0 < ns.length) (h2 : ns.length < 1000) (T : Top hd.view_39 loose mean mg mb h₀) (hk : cs.kind = .function)
  (hx : 0 ≤ x) (hy : 0 ≤ y) (hy2 : y < 2147483647) (hdp : dp + 2 < recursionLimit)
  (hret : ∀ v x' y' t t1 t2 h' tk', Fr h₀ L h' m → News h₀ L h' ((l, listOf #[.int x' t1, .int y' t2] n) :: news) → v ∈ ns → 0 ≤ x' → 0 ≤ y' → y' < 2147483647 → Q (.int v t) { s with heap := h', toks := tk' }) :
  wpAny (model PySem.Challenge.rw_on0336_01.row.prog w) (ktrTop dp un gd cn cs L a ccd cl outer) (call (.ref 126) [.ref l, .ref q]) Q E s := by
  revert X; k_fill; intro X
  have hlen := hi.length
  refine wpAny_call ?_
  k_dflt cell_enter
  k_steps
  exact hret _ _ _ _ _ _ _ _ (by k_asm) (by k_asm) (getD_mem (by omega)) (by assumption) (by assumption) (by assumption)

theorem item_open {prog : Program} {w : World} {A : Around} {E : Value → Shared → Prop} {s : Shared} {value slice : PySem.Expr} {l : Addr} {vs : List Value} {k : Int} {u : Tok} {Q : Value → Shared → Prop} (hl : s.heap.IsList l vs.toArray) (h0 : 0 ≤ k) (h1 : k < (vs.length : Int)) (hhi : k < 2 ^ 63) (h : ∀ v ∈ vs, Q v s)
    (hs : subscripted slice false (.ref l) (.int k u) = operate [.ref l, .int k u] (getItem (.ref l) (.int k u)) := by with_unfolding_all rfl) :
    wpAny (model prog w) A (subscriptTail value slice (.ref l) (.int k u)) Q E s := by
  have hk : k.toNat < vs.length := by omega
  exact item_litK hl h0 hhi (List.getElem?_eq_getElem hk) (h _ (List.getElem_mem hk)) hs
inductive Wd where
  | grow | slow | avoid | over | late
def Wd.str : Wd → Str
  | .grow => Str.ofString "grow"
  | .slow => Str.ofString "slow"
  | .avoid => Str.ofString "avoid"
  | .over => Str.ofString "over"
  | .late => Str.ofString "late"
set_option maxRecDepth 100000 in
set_option maxHeartbeats 2000000 in
theorem onew_c (w : World) {loose : List Str} {mean : ExcName → Option Value} {mg mb : Str → Option Value}
  {dp un : Nat} {gd : Option (List Code)} {cn : Str} {cs : Scope} {a : Addr} {ccd : Value} {cl : List (Str × Addr)} {outer : List Env} {A₀ : Around} {base h₀ : Heap} {L : Addr} {m : Str → Option Value} {news : List (Addr × Obj)} {s : Shared} {l q : Addr} {n n2 : Nat} {x y : Int} {tx ty s0 s1 s2 s3 s4 s5 s6 s7 : Tok} {Q E : Value → Shared → Prop}
  (B : Below A₀ base outer h₀) (F : Fr h₀ L s.heap m) (X : (hd.heap_39 w.params).In h₀) (N : News h₀ L s.heap ((l, listOf #[.int x tx, .int y ty] n) :: news)) (hne : ∀ p ∈ news, p.1 ≠ l)
  (hq : (q, listOf [.str (Str.ofString "grow") s0, .str (Str.ofString "slow") s1, .str (Str.ofString "slow") s2, .str (Str.ofString "avoid") s3, .str (Str.ofString "avoid") s4, .str (Str.ofString "avoid") s5, .str (Str.ofString "over") s6, .str (Str.ofString "late") s7].toArray n2) ∈ news) (T : Top hd.view_39 loose mean mg mb h₀) (hk : cs.kind = .function)
  (hx : 0 ≤ x) (hy : 0 ≤ y) (hy2 : y < 2147483647) (hdp : dp + 2 < recursionLimit)
  (hret : ∀ (v : Wd) x' y' t t1 t2 h' tk', Fr h₀ L h' m → News h₀ L h' ((l, listOf #[.int x' t1, .int y' t2] n) :: news) → 0 ≤ x' → 0 ≤ y' → y' < 2147483647 → Q (.str v.str t) { s with heap := h', toks := tk' }) :
  wpAny (model PySem.Challenge.rw_on0336_01.row.prog w) (ktrTop dp un gd cn cs L a ccd cl outer) (call (.ref 126) [.ref l, .ref q]) Q E s := by
  revert X; k_fill; intro X
  refine wpAny_call ?_
  k_dflt cell_enter
  k_steps
  with_unfolding_all refine' item_open ?k1 ?k2 ?k3 ?k4 ?_ ?k6
  case k1 => is_list
  case k2 => assumption
  case k3 => simp only [List.length_cons, List.length_nil]; omega
  case k4 => omega
  case k6 => with_unfolding_all rfl
  intro v hv
  simp only [List.mem_cons, List.mem_nil_iff, or_false] at hv
  rcases hv with rfl | rfl | rfl | rfl | rfl | rfl | rfl | rfl
  all_goals k_steps
  · exact hret .grow _ _ _ _ _ _ _ (by k_asm) (by k_asm) (by assumption) (by assumption) (by assumption)
  · exact hret .slow _ _ _ _ _ _ _ (by k_asm) (by k_asm) (by assumption) (by assumption) (by assumption)
  · exact hret .slow _ _ _ _ _ _ _ (by k_asm) (by k_asm) (by assumption) (by assumption) (by assumption)
  · exact hret .avoid _ _ _ _ _ _ _ (by k_asm) (by k_asm) (by assumption) (by assumption) (by assumption)
  · exact hret .avoid _ _ _ _ _ _ _ (by k_asm) (by k_asm) (by assumption) (by assumption) (by assumption)
  · exact hret .avoid _ _ _ _ _ _ _ (by k_asm) (by k_asm) (by assumption) (by assumption) (by assumption)
  · exact hret .over _ _ _ _ _ _ _ (by k_asm) (by k_asm) (by assumption) (by assumption) (by assumption)
  · exact hret .late _ _ _ _ _ _ _ (by k_asm) (by k_asm) (by assumption) (by assumption) (by assumption)
end
section
local macro_rules | `(tactic| k_room) => `(tactic| ktr_room)
local macro_rules | `(tactic| units_room) => `(tactic| ktr_units)
set_option maxRecDepth 100000 in
set_option maxHeartbeats 2000000 in
theorem small_c (w : World) {loose : List Str} {mean : ExcName → Option Value} {mg mb : Str → Option Value}
  {dp un : Nat} {gd : Option (List Code)} {cn : Str} {cs : Scope} {a : Addr} {ccd : Value} {cl : List (Str × Addr)} {outer : List Env} {A₀ : Around} {base h₀ : Heap} {L : Addr} {m : Str → Option Value} {news : List (Addr × Obj)} {s : Shared} {Q E : Value → Shared → Prop}
  (B : Below A₀ base outer h₀) (F : Fr h₀ L s.heap m) (X : (hd.heap_39 w.params).In h₀) (N : News h₀ L s.heap news) (T : Top hd.view_39 loose mean mg mb h₀) (hk : cs.kind = .function)
  (hdp : dp + 4 < recursionLimit) (hu : un + 100 < cLine)
  (hret : ∀ h' tk', Fr h₀ L h' m → News h₀ L h' news → Q (.bool true) { s with heap := h', toks := tk' }) :
  wpAny (model PySem.Challenge.rw_on0336_01.row.prog w) (ktrTop dp un gd cn cs L a ccd cl outer) (call (.ref 154) []) Q E s := by
  revert X; k_fill; intro X
  refine wpAny_call ?_
  k_dflt cell_enter
  k_steps
  rw [show decide ([(4 + 2 : Int), 40, 0 + 6 - 4] = [6, 40, 2]) = true from by decide]
  exact hret _ _ (by k_asm) (cb_drop (by assumption) (by kcj_all))
end
section
local macro_rules | `(tactic| k_room) => `(tactic| ktr_room)
local macro_rules | `(tactic| units_room) => `(tactic| ktr_units)
theorem big_nonneg (c : Int) (b : Bool) : 0 ≤ (if -1 - c > c then -1 - c else c) * (if b = true then (1 : Int) else 0) := by
  refine Int.mul_nonneg ?_ ?_
  · split <;> omega
  · split <;> omega
set_option maxRecDepth 100000 in
set_option maxHeartbeats 2000000 in
theorem pool_c (w : World) {loose : List Str} {mean : ExcName → Option Value} {mg mb : Str → Option Value}
  {dp un : Nat} {gd : Option (List Code)} {cn : Str} {cs : Scope} {a : Addr} {ccd : Value} {cl : List (Str × Addr)} {outer : List Env} {A₀ : Around} {base h₀ : Heap} {L : Addr} {m : Str → Option Value} {news : List (Addr × Obj)} {s : Shared} {l : Addr} {vs : List Value} {ns : List Int} {tt : Tok} {Q E : Value → Shared → Prop}
  (B : Below A₀ base outer h₀) (F : Fr h₀ L s.heap m) (X : (hd.heap_39 w.params).In h₀) (N : News h₀ L s.heap news) (T : Top hd.view_39 loose mean mg mb h₀) (hk : cs.kind = .function)
  (hl : base.IsList l vs.toArray) (hi : IntsAre vs ns) (hfit : ns.length < 2 ^ 62) (hdp : dp + 1 < recursionLimit) (hu : un + 100 < cLine)
  (hret : ∀ q n x y t1 t2 h' tk', Fr h₀ L h' m → News h₀ L h' ((q, listOf #[.int x t1, .int y t2] n) :: news) → (∀ p ∈ news, p.1 < q) → 0 ≤ x → 0 ≤ y → y < 2147483647 → Q (.ref q) { s with heap := h', toks := tk' }) :
  wpAny (model PySem.Challenge.rw_on0336_01.row.prog w) (ktrTop dp un gd cn cs L a ccd cl outer) (call (.ref 112) [.ref l, .int 0 tt]) Q E s := by
  revert X; k_fill; intro X
  refine wpAny_call ?_
  k_dflt cell_enter
  k_steps
  all_goals exact hret _ _ _ _ _ _ _ _ (by k_asm) (by k_asm) (by assumption) (big_nonneg _ _) (fm_lo (by decide)) (fm_hi (by decide))
end
section
local macro_rules | `(tactic| k_room) => `(tactic| ktr_room)
local macro_rules | `(tactic| units_room) => `(tactic| ktr_units)

def sizeF (k : Wd) (o mss most size thr gath : Int) (ca : Bool) : Int := match k with
  | .grow => min (size + o) most
  | .slow => min (size + min o (if ca = true then mss else 2 * mss)) most
  | .avoid => if size ≤ gath + o then min (size + mss) most else size
  | .over => min thr most
  | .late => mss
def thrF (k : Wd) (o mss thr : Int) : Int := match k with
  | .late => max (o.fdiv 2) (2 * mss)
  | _ => thr
def gathF (k : Wd) (o size gath : Int) : Int := match k with
  | .avoid => if size ≤ gath + o then gath + o - size else gath + o
  | .over => 0
  | .late => 0
  | _ => gath
def dupF (k : Wd) (dup : Int) : Int := match k with
  | .over => 0
  | .late => 0
  | _ => dup
def recF (k : Wd) (rc : Bool) : Bool := match k with
  | .over => false
  | .late => false
  | _ => rc
def cautF (k : Wd) (o mss most size thr : Int) (ca : Bool) : Bool := match k with
  | .slow => ca && decide (min (size + min o (if ca = true then mss else 2 * mss)) most < thr)
  | .late => true
  | _ => ca
section
local macro_rules | `(tactic| k_mem) => `(tactic| assumption)
set_option maxRecDepth 100000 in
set_option maxHeartbeats 2000000 in
theorem halved_c (w : World) {loose : List Str} {mean : ExcName → Option Value} {mg mb : Str → Option Value}
  {dp un : Nat} {gd : Option (List Code)} {cn : Str} {cs : Scope} {a : Addr} {ccd : Value} {cl : List (Str × Addr)} {outer : List Env} {A₀ : Around} {base h₀ : Heap} {L : Addr} {m : Str → Option Value} {s : Shared} {Q E : Value → Shared → Prop} {led : List (Addr × Obj)} {x d : Addr} {j0 j1 j2 j3 j4 j5 j6 j7 : Int} {k0 k1 k2 k3 k4 k5 k6 k7 : Tok} {mss most size thr gath dup : Int} {rc ca : Bool} {t0 t1 t2 t3 t4 t5 : Tok} {o : Int} {ot : Tok}
  (B : Below A₀ base outer h₀) (F : Fr h₀ L s.heap m) (X : (hd.heap_39 w.params).In h₀) (T : Top hd.view_39 loose mean mg mb h₀) (hk : cs.kind = .function) (N : News h₀ L s.heap led)
  (mx : (x, instObj 101 d) ∈ led) (md : (d, dictOf [⟨j0, .str (Str.ofString "mss") k0, .int mss t0⟩, ⟨j1, .str (Str.ofString "most") k1, .int most t1⟩, ⟨j2, .str (Str.ofString "size") k2, .int size t2⟩, ⟨j3, .str (Str.ofString "threshold") k3, .int thr t3⟩, ⟨j4, .str (Str.ofString "gathered") k4, .int gath t4⟩, ⟨j5, .str (Str.ofString "duplicates") k5, .int dup t5⟩, ⟨j6, .str (Str.ofString "is_recovering") k6, .bool rc⟩, ⟨j7, .str (Str.ofString "is_cautious") k7, .bool ca⟩] 8) ∈ led) (hdp : dp + 1 < recursionLimit)
  (hret : ∀ v t h' tk', Fr h₀ L h' m → News h₀ L h' led → v = max (o.fdiv 2) (2 * mss) → Q (.int v t) { s with heap := h', toks := tk' }) :
  wpAny (model PySem.Challenge.rw_on0336_01.row.prog w) (ktrTop dp un gd cn cs L a ccd cl outer) (call (.ref 56) [.ref x, .int o ot]) Q E s := by
  revert X; k_fill; intro X
  refine wpAny_call ?_
  k_dflt cell_enter
  k_steps
  all_goals exact hret _ _ _ _ (by k_asm) (by k_asm) (by omega)
end
section
local macro_rules | `(tactic| k_all) => `(tactic| assumption)
set_option maxRecDepth 100000 in
set_option maxHeartbeats 2000000 in
theorem did_c (w : World) {loose : List Str} {mean : ExcName → Option Value} {mg mb : Str → Option Value}
  {dp un : Nat} {gd : Option (List Code)} {cn : Str} {cs : Scope} {a : Addr} {ccd : Value} {cl : List (Str × Addr)} {outer : List Env} {A₀ : Around} {base h₀ : Heap} {L : Addr} {m : Str → Option Value} {s : Shared} {Q E : Value → Shared → Prop} {news : List (Addr × Obj)} {x d : Addr} {j0 j1 j2 j3 j4 j5 j6 j7 : Int} {k0 k1 k2 k3 k4 k5 k6 k7 : Tok} {mss most size thr gath dup : Int} {rc ca : Bool} {t0 t1 t2 t3 t4 t5 : Tok} {o : Int} {ot wt : Tok} (k : Wd)
  (B : Below A₀ base outer h₀) (F : Fr h₀ L s.heap m) (X : (hd.heap_39 w.params).In h₀) (T : Top hd.view_39 loose mean mg mb h₀) (hk : cs.kind = .function) (N : News h₀ L s.heap ((d, dictOf [⟨j0, .str (Str.ofString "mss") k0, .int mss t0⟩, ⟨j1, .str (Str.ofString "most") k1, .int most t1⟩, ⟨j2, .str (Str.ofString "size") k2, .int size t2⟩, ⟨j3, .str (Str.ofString "threshold") k3, .int thr t3⟩, ⟨j4, .str (Str.ofString "gathered") k4, .int gath t4⟩, ⟨j5, .str (Str.ofString "duplicates") k5, .int dup t5⟩, ⟨j6, .str (Str.ofString "is_recovering") k6, .bool rc⟩, ⟨j7, .str (Str.ofString "is_cautious") k7, .bool ca⟩] 8) :: (x, instObj 101 d) :: news))
  (hxd : @Ne Nat x d) (hne : ∀ p ∈ news, p.1 ≠ d) (hdp : dp + 3 < recursionLimit)
  (hret : ∀ z th g du re cu u2 u3 u4 u5 h' tk', Fr h₀ L h' m → News h₀ L h' ((d, dictOf [⟨j0, .str (Str.ofString "mss") k0, .int mss t0⟩, ⟨j1, .str (Str.ofString "most") k1, .int most t1⟩, ⟨j2, .str (Str.ofString "size") k2, .int z u2⟩, ⟨j3, .str (Str.ofString "threshold") k3, .int th u3⟩, ⟨j4, .str (Str.ofString "gathered") k4, .int g u4⟩, ⟨j5, .str (Str.ofString "duplicates") k5, .int du u5⟩, ⟨j6, .str (Str.ofString "is_recovering") k6, .bool re⟩, ⟨j7, .str (Str.ofString "is_cautious") k7, .bool cu⟩] 8) :: (x, instObj 101 d) :: news) →
    z = sizeF k o mss most size thr gath ca → th = thrF k o mss thr → g = gathF k o size gath → du = dupF k dup → re = recF k rc → cu = cautF k o mss most size thr ca → Q .none { s with heap := h', toks := tk' }) :
  wpAny (model PySem.Challenge.rw_on0336_01.row.prog w) (ktrTop dp un gd cn cs L a ccd cl outer) (call (.ref 147) [.str k.str wt, .int o ot, .ref x]) Q E s := by
  revert X; k_fill; intro X
  cases k
  all_goals dsimp only [Wd.str]
  all_goals refine wpAny_call ?_
  all_goals k_dflt cell_enter
  all_goals k_steps
  all_goals (try (first | (rename ca = true => hca; subst hca) | (rename ca = false => hca; subst hca)))
  all_goals exact hret _ _ _ _ _ _ _ _ _ _ _ _ (by k_asm) (by k_asm) (by first | rfl | (simp only [sizeF, thrF, gathF, dupF, if_true, Bool.false_eq_true, if_false]; omega)) (by first | rfl | (simp only [sizeF, thrF, gathF, dupF, if_true, Bool.false_eq_true, if_false]; omega)) (by first | rfl | (simp only [sizeF, thrF, gathF, dupF, if_true, Bool.false_eq_true, if_false]; omega)) (by first | rfl | (simp only [sizeF, thrF, gathF, dupF, if_true, Bool.false_eq_true, if_false]; omega)) (by first | rfl | (simp only [cautF, recF, if_true, Bool.false_eq_true, if_false, Bool.true_and, Bool.false_and]; first | done | rfl | exact (decide_eq_true (by omega)).symm | exact (decide_eq_false (by omega)).symm)) (by first | rfl | (simp only [cautF, recF, if_true, Bool.false_eq_true, if_false, Bool.true_and, Bool.false_and]; first | done | rfl | exact (decide_eq_true (by omega)).symm | exact (decide_eq_false (by omega)).symm))
end
end
section
local macro_rules | `(tactic| k_room) => `(tactic| ktr_room)
local macro_rules | `(tactic| units_room) => `(tactic| ktr_units)
section
local macro_rules | `(tactic| k_mem) => `(tactic| assumption)
local macro_rules | `(tactic| news_mem) => `(tactic| assumption)
theorem drop1 {h₀ h : Heap} {L : Addr} {p g : Addr × Obj} {led : List (Addr × Obj)} (N : News h₀ L h (p :: g :: led)) : News h₀ L h (p :: led) := fun x hx => N x (by
  rcases List.mem_cons.mp hx with rfl | hx
  · exact .head _
  · exact .tail _ (.tail _ hx))
set_option maxRecDepth 100000 in
set_option maxHeartbeats 2000000 in
theorem due_c (w : World) {loose : List Str} {mean : ExcName → Option Value} {mg mb : Str → Option Value}
  {dp un : Nat} {gd : Option (List Code)} {cn : Str} {cs : Scope} {a : Addr} {ccd : Value} {cl : List (Str × Addr)} {outer : List Env} {A₀ : Around} {base h₀ : Heap} {L : Addr} {m : Str → Option Value} {s : Shared} {Q E : Value → Shared → Prop} {led : List (Addr × Obj)} {q : Addr} {n : Nat} {mss most size thr gath dup o : Int} {rc ca : Bool} {t2 t3 t4 t5 wt ot mt nt : Tok} (k : Wd)
  (B : Below A₀ base outer h₀) (F : Fr h₀ L s.heap m) (X : (hd.heap_39 w.params).In h₀) (T : Top hd.view_39 loose mean mg mb h₀) (hk : cs.kind = .function) (N : News h₀ L s.heap led)
  (mq : (q, listOf [.int size t2, .int thr t3, .int gath t4, .int dup t5, .bool rc, .bool ca].toArray n) ∈ led) (hdp : dp + 1 < recursionLimit) (hu : un + 100 < cLine)
  (hret : ∀ r nn z th g du re cu u2 u3 u4 u5 h' tk', Fr h₀ L h' m → News h₀ L h' ((r, listOf [.int z u2, .int th u3, .int g u4, .int du u5, .bool re, .bool cu].toArray nn) :: led) → (∀ p ∈ led, p.1 < r) →
    z = sizeF k o mss most size thr gath ca → th = thrF k o mss thr → g = gathF k o size gath → du = dupF k dup → re = recF k rc → cu = cautF k o mss most size thr ca → Q (.ref r) { s with heap := h', toks := tk' }) :
  wpAny (model PySem.Challenge.rw_on0336_01.row.prog w) (ktrTop dp un gd cn cs L a ccd cl outer) (call (.ref 140) [.str k.str wt, .int o ot, .ref q, .int mss mt, .int most nt]) Q E s := by
  revert X; k_fill; intro X
  cases k
  all_goals dsimp only [Wd.str]
  all_goals refine wpAny_call ?_
  all_goals k_dflt cell_enter
  all_goals k_steps
  all_goals (try (first | (rename ca = true => hca; subst hca) | (rename ca = false => hca; subst hca)))
  all_goals exact hret _ _ _ _ _ _ _ _ _ _ _ _ _ _ (by k_asm) (by first | k_asm | exact drop1 (by k_asm)) (by first | assumption | exact kst_ltOf (And.right (by assumption))) (by first | rfl | (simp only [sizeF, thrF, gathF, dupF, if_true, Bool.false_eq_true, if_false]; omega)) (by first | rfl | (simp only [sizeF, thrF, gathF, dupF, if_true, Bool.false_eq_true, if_false]; omega)) (by first | rfl | (simp only [sizeF, thrF, gathF, dupF, if_true, Bool.false_eq_true, if_false]; omega)) (by first | rfl | (simp only [sizeF, thrF, gathF, dupF, if_true, Bool.false_eq_true, if_false]; omega)) (by first | rfl | (simp only [cautF, recF, if_true, Bool.false_eq_true, if_false, Bool.true_and, Bool.false_and]; first | done | rfl | exact (decide_eq_true (by omega)).symm | exact (decide_eq_false (by omega)).symm | exact decide_eq_decide.mpr (by omega))) (by first | rfl | (simp only [cautF, recF, if_true, Bool.false_eq_true, if_false, Bool.true_and, Bool.false_and]; first | done | rfl | exact (decide_eq_true (by omega)).symm | exact (decide_eq_false (by omega)).symm | exact decide_eq_decide.mpr (by omega)))
end
end
section
theorem onei_u {w : World} {loose : List Str} {mean : ExcName → Option Value} {mg mb : Str → Option Value}
  {dp un : Nat} {gd : Option (List Code)} {cn : Str} {cs : Scope} {a : Addr} {ccd : Value} {cl : List (Str × Addr)} {outer : List Env} {A₀ : Around} {base h₀ : Heap} {L : Addr} {m : Str → Option Value} {s : Shared} {Q E : Value → Shared → Prop} {led news : List (Addr × Obj)} {l q : Addr} {n n2 : Nat} {x y : Int} {tx ty : Tok} {vs : List Value} {ns : List Int}
  (B : Below A₀ base outer h₀) (F : Fr h₀ L s.heap m) (X : (hd.heap_39 w.params).In h₀) (T : Top hd.view_39 loose mean mg mb h₀) (hk : cs.kind = .function) (N : News h₀ L s.heap led) (P : Pick l (listOf #[.int x tx, .int y ty] n) led news) (hq : (q, listOf vs.toArray n2) ∈ news) (hi : IntsAre vs ns) (h0 : 0 < ns.length) (h2 : ns.length < 1000)
  (hx : 0 ≤ x) (hy : 0 ≤ y) (hy2 : y < 2147483647) (hdp : dp + 2 < recursionLimit)
  (hret : ∀ v x' y' t t1 t2 h' tk', Fr h₀ L h' m → News h₀ L h' ((l, listOf #[.int x' t1, .int y' t2] n) :: news) → v ∈ ns → 0 ≤ x' → 0 ≤ y' → y' < 2147483647 → Q (.int v t) { s with heap := h', toks := tk' }) :
  wpAny (model PySem.Challenge.rw_on0336_01.row.prog w) (ktrTop dp un gd cn cs L a ccd cl outer) (call (.ref 126) [.ref l, .ref q]) Q E s := onei_c w B F X (P.news N) P.off hq hi h0 h2 T hk hx hy hy2 hdp hret
theorem onew_u {w : World} {loose : List Str} {mean : ExcName → Option Value} {mg mb : Str → Option Value}
  {dp un : Nat} {gd : Option (List Code)} {cn : Str} {cs : Scope} {a : Addr} {ccd : Value} {cl : List (Str × Addr)} {outer : List Env} {A₀ : Around} {base h₀ : Heap} {L : Addr} {m : Str → Option Value} {s : Shared} {Q E : Value → Shared → Prop} {led news : List (Addr × Obj)} {l q : Addr} {n n2 : Nat} {x y : Int} {tx ty s0 s1 s2 s3 s4 s5 s6 s7 : Tok}
  (B : Below A₀ base outer h₀) (F : Fr h₀ L s.heap m) (X : (hd.heap_39 w.params).In h₀) (T : Top hd.view_39 loose mean mg mb h₀) (hk : cs.kind = .function) (N : News h₀ L s.heap led) (P : Pick l (listOf #[.int x tx, .int y ty] n) led news)
  (hq : (q, listOf [.str (Str.ofString "grow") s0, .str (Str.ofString "slow") s1, .str (Str.ofString "slow") s2, .str (Str.ofString "avoid") s3, .str (Str.ofString "avoid") s4, .str (Str.ofString "avoid") s5, .str (Str.ofString "over") s6, .str (Str.ofString "late") s7].toArray n2) ∈ news)
  (hx : 0 ≤ x) (hy : 0 ≤ y) (hy2 : y < 2147483647) (hdp : dp + 2 < recursionLimit)
  (hret : ∀ (v : Wd) x' y' t t1 t2 h' tk', Fr h₀ L h' m → News h₀ L h' ((l, listOf #[.int x' t1, .int y' t2] n) :: news) → 0 ≤ x' → 0 ≤ y' → y' < 2147483647 → Q (.str v.str t) { s with heap := h', toks := tk' }) :
  wpAny (model PySem.Challenge.rw_on0336_01.row.prog w) (ktrTop dp un gd cn cs L a ccd cl outer) (call (.ref 126) [.ref l, .ref q]) Q E s := onew_c w B F X (P.news N) P.off hq T hk hx hy hy2 hdp hret
end
section
def lastS : List Stmt → Stmt → Stmt
  | [], d => d
  | x :: r, _ => lastS r x
def nthS : List Stmt → Nat → Stmt → Stmt
  | [], _, d => d
  | x :: _, 0, _ => x
  | _ :: r, n + 1, d => nthS r n d
def forBody : Stmt → List Stmt
  | .For _ _ b _ _ => b
  | _ => []
def funBody : Stmt → List Stmt
  | .FunctionDef _ _ b _ _ _ _ _ _ _ => b
  | _ => []
def funScope (d : Scope) : Stmt → Scope
  | .FunctionDef _ _ _ _ _ _ s _ _ _ => s
  | _ => d
def noS : Stmt := .Pass ⟨0, 0, 0, 0⟩
set_option maxRecDepth 100000 in
def turnB : { b : List Stmt // b = forBody (nthS (funBody (lastS PySem.Challenge.rw_on0336_01.row.prog.main.body noS)) 5 noS) } := by
  refine ⟨?b, ?e⟩
  case' e =>
    dsimp only [PySem.W.OpenLaw.row, PySem.Challenge.rw_on0336_01, PySem.Challenge.pw_on0336_01, lastS, funBody, nthS, forBody]
    exact rfl
set_option maxRecDepth 100000 in
def lawSc : { c : Scope // c = funScope PySem.Challenge.rw_on0336_01.row.prog.main.scope (lastS PySem.Challenge.rw_on0336_01.row.prog.main.body noS) } := by
  refine ⟨?b, ?e⟩
  case' e =>
    dsimp only [PySem.W.OpenLaw.row, PySem.Challenge.rw_on0336_01, PySem.Challenge.pw_on0336_01, lastS, funScope]
    exact rfl
end
section
theorem Pick.news2 {d x : Addr} {o o' : Obj} {a b : List (Addr × Obj)} {h₀ h : Heap} {L : Addr} (k : Pick x o' a b) (N : News h₀ L h ((d, o) :: a)) : News h₀ L h ((d, o) :: (x, o') :: b) := fun p hp => N p (by
  rcases List.mem_cons.mp hp with rfl | hp
  · exact .head _
  · exact .tail _ (k.sub p hp))
theorem ne_same {prog : Program} {w : World} {A : Around} {E : Value → Shared → Prop} {s : Shared} {a b : Int} {t u : Tok} {Q : Value → Shared → Prop} (e : a = b) (h : Q (.bool false) s) : wpAny (model prog w) A (compareOp .NotEq (.int a t) (.int b u)) Q E s := by
  refine PyProof.Rows.ne_int ?_
  rw [show (a != b) = false from by rw [e]; exact bne_self_eq_false b]
  exact h
theorem ne_six {prog : Program} {w : World} {A : Around} {E : Value → Shared → Prop} {s : Shared} {a b : Addr} {z z' th th' g g' du du' : Int} {re re' cu cu' : Bool} {t1 t2 t3 t4 u1 u2 u3 u4 : Tok} {Q : Value → Shared → Prop}
    (ha : s.heap.IsList a [.int z t1, .int th t2, .int g t3, .int du t4, .bool re, .bool cu].toArray) (hb : s.heap.IsList b [.int z' u1, .int th' u2, .int g' u3, .int du' u4, .bool re', .bool cu'].toArray) (hu : A.units + 64 < cLine)
    (e : z = z' ∧ th = th' ∧ g = g' ∧ du = du' ∧ re = re' ∧ cu = cu') (h : Q (.bool false) s) : wpAny (model prog w) A (compareOp .NotEq (.ref a) (.ref b)) Q E s := by
  obtain ⟨rfl, rfl, rfl, rfl, rfl, rfl⟩ := e
  refine ne_dataH (reads_newData ha (.cons (.int _ _) (.cons (.int _ _) (.cons (.int _ _) (.cons (.int _ _) (.cons (.bool _) (.cons (.bool _) .nil))))))) (reads_newData hb (.cons (.int _ _) (.cons (.int _ _) (.cons (.int _ _) (.cons (.int _ _) (.cons (.bool _) (.cons (.bool _) .nil))))))) rfl rfl hu ?_
  have e : PyData.eqv (.list [.int z, .int th, .int g, .int du, .bool re, .bool cu]) (.list [.int z, .int th, .int g, .int du, .bool re, .bool cu]) = true := by
    simp only [PyData.eqv, PyData.eqvAll, beq_self_eq_true, Bool.and_true, decide_true]
  rw [e]
  exact h
set_option maxHeartbeats 1000000 in

theorem did_u {w : World} {loose : List Str} {mean : ExcName → Option Value} {mg mb : Str → Option Value}
  {dp un : Nat} {gd : Option (List Code)} {cn : Str} {cs : Scope} {a : Addr} {ccd : Value} {cl : List (Str × Addr)} {outer : List Env} {A₀ : Around} {base h₀ : Heap} {L : Addr} {m : Str → Option Value} {s : Shared} {Q E : Value → Shared → Prop} {led r1 news : List (Addr × Obj)} {x d : Addr} {j0 j1 j2 j3 j4 j5 j6 j7 : Int} {k0 k1 k2 k3 k4 k5 k6 k7 : Tok} {mss most size thr gath dup : Int} {rc ca : Bool} {t0 t1 t2 t3 t4 t5 : Tok} {o : Int} {ot wt : Tok} {k : Wd}
  (B : Below A₀ base outer h₀) (F : Fr h₀ L s.heap m) (X : (hd.heap_39 w.params).In h₀) (T : Top hd.view_39 loose mean mg mb h₀) (hk : cs.kind = .function) (N : News h₀ L s.heap led) (_mx : (x, instObj 101 d) ∈ led) (P1 : Pick d (dictOf [⟨j0, .str (Str.ofString "mss") k0, .int mss t0⟩, ⟨j1, .str (Str.ofString "most") k1, .int most t1⟩, ⟨j2, .str (Str.ofString "size") k2, .int size t2⟩, ⟨j3, .str (Str.ofString "threshold") k3, .int thr t3⟩, ⟨j4, .str (Str.ofString "gathered") k4, .int gath t4⟩, ⟨j5, .str (Str.ofString "duplicates") k5, .int dup t5⟩, ⟨j6, .str (Str.ofString "is_recovering") k6, .bool rc⟩, ⟨j7, .str (Str.ofString "is_cautious") k7, .bool ca⟩] 8) led r1) (P2 : Pick x (instObj 101 d) r1 news) (hdp : dp + 3 < recursionLimit)
  (hret : ∀ z th g du re cu u2 u3 u4 u5 h' tk', Fr h₀ L h' m → News h₀ L h' ((d, dictOf [⟨j0, .str (Str.ofString "mss") k0, .int mss t0⟩, ⟨j1, .str (Str.ofString "most") k1, .int most t1⟩, ⟨j2, .str (Str.ofString "size") k2, .int z u2⟩, ⟨j3, .str (Str.ofString "threshold") k3, .int th u3⟩, ⟨j4, .str (Str.ofString "gathered") k4, .int g u4⟩, ⟨j5, .str (Str.ofString "duplicates") k5, .int du u5⟩, ⟨j6, .str (Str.ofString "is_recovering") k6, .bool re⟩, ⟨j7, .str (Str.ofString "is_cautious") k7, .bool cu⟩] 8) :: (x, instObj 101 d) :: news) →
    z = sizeF k o mss most size thr gath ca → th = thrF k o mss thr → g = gathF k o size gath → du = dupF k dup → re = recF k rc → cu = cautF k o mss most size thr ca → Q .none { s with heap := h', toks := tk' }) :
  wpAny (model PySem.Challenge.rw_on0336_01.row.prog w) (ktrTop dp un gd cn cs L a ccd cl outer) (call (.ref 147) [.str k.str wt, .int o ot, .ref x]) Q E s := by
  have hs := P2.sub
  refine did_c w k B F X T hk (P2.news2 (P1.news N)) (P1.off _ (hs _ (.head _))) (fun p hp => P1.off p (hs p (.tail _ hp))) hdp hret
end
section
local macro_rules | `(tactic| k_upd) => `(tactic| first | (refine' Pick.head ?a; (case a => k_all)) | (refine' Pick.tail ?a ?b; (case a => k_ne); (case b => k_upd)))
local macro_rules | `(tactic| k_all) => `(tactic| assumption)
local macro_rules | `(tactic| walk_at "call ref") => `(tactic| (k_here; (with_reducible show wpAny _ _ (call (Value.ref 119) [Value.ref _, Value.int _ _]) _ _ _); k_dflt (refine' take_u ?k1 ?k2 ?k3 ?N ?P ?k4 ?k5 ?h1 ?h2 ?b1 ?b2 ?b3 ?bd ?_; (case k1 => k_asm); (case k2 => k_asm); (case k3 => k_asm); (case k4 => k_asm); (case k5 => first | exact rfl | assumption); (case N => k_asm); (case P => k_upd); (case h1 => first | decide | omega); (case h2 => first | decide | omega); (case b1 => first | assumption | omega); (case b2 => first | assumption | omega); (case b3 => first | assumption | omega); (case bd => ktr_room); k_whole; intro r9 x9 y9 t9 u9 v9 h9 tk9 F9 N9 r1 r2 x1 y1 y2; (try k_sweep); (try dsimp only); (try k_fold))))
local macro_rules | `(tactic| walk_at "call ref") => `(tactic| (k_here; (with_reducible show wpAny _ _ (call (Value.ref 126) [Value.ref _, Value.ref _]) _ _ _); k_dflt (refine' onei_u ?k1 ?k2 ?k3 ?k4 ?k5 ?N ?P ?hq ?hi ?h0 ?h2 ?b1 ?b2 ?b3 ?bd ?_; (case k1 => k_asm); (case k2 => k_asm); (case k3 => k_asm); (case k4 => k_asm); (case k5 => first | exact rfl | assumption); (case N => k_asm); (case P => k_upd); (case hq => k_mem); (case hi => l_ints); (case h0 => simp only [List.length_cons, List.length_nil]; decide); (case h2 => simp only [List.length_cons, List.length_nil]; decide); (case b1 => first | assumption | omega); (case b2 => first | assumption | omega); (case b3 => first | assumption | omega); (case bd => ktr_room); k_whole; intro r9 x9 y9 t9 u9 v9 h9 tk9 F9 N9 r1 x1 y1 y2; (try k_sweep); (try dsimp only); (try k_fold))))
local macro_rules | `(tactic| walk_at "call ref") => `(tactic| (k_here; (with_reducible show wpAny _ _ (call (Value.ref 126) [Value.ref _, Value.ref _]) _ _ _); k_dflt (refine' onew_u ?k1 ?k2 ?k3 ?k4 ?k5 ?N ?P ?hq ?b1 ?b2 ?b3 ?bd ?_; (case k1 => k_asm); (case k2 => k_asm); (case k3 => k_asm); (case k4 => k_asm); (case k5 => first | exact rfl | assumption); (case N => k_asm); (case P => k_upd); (case hq => k_mem); (case b1 => first | assumption | omega); (case b2 => first | assumption | omega); (case b3 => first | assumption | omega); (case bd => ktr_room); k_whole; intro r9 x9 y9 t9 u9 v9 h9 tk9 F9 N9 x1 y1 y2; (try k_sweep); (try dsimp only); (try k_fold))))
local macro_rules | `(tactic| walk_at "call ref") => `(tactic| (k_here; (with_reducible show wpAny _ _ (call (Value.ref 112) [Value.ref _, Value.int _ _]) _ _ _); k_dflt (refine' pool_c _ ?k1 ?k2 ?k3 ?N ?k4 ?k5 ?hl ?hi ?hf ?bd ?bu ?_; (case k1 => k_asm); (case k2 => k_asm); (case k3 => k_asm); (case k4 => k_asm); (case k5 => first | exact rfl | assumption); (case N => k_asm); (case hl => k_asm); (case hi => l_ints); (case hf => l_fit); (case bd => ktr_room); (case bu => ktr_units); k_whole; intro q9 n9 x9 y9 u9 v9 h9 tk9 F9 N9 l1 x1 y1 y2; (try k_lt l1); (try k_sweep); (try dsimp only); (try k_fold))))
local macro_rules | `(tactic| walk_at "call ref") => `(tactic| (k_here; (with_reducible show wpAny _ _ (call (Value.ref 154) _) _ _ _); k_dflt (refine' small_c _ ?k1 ?k2 ?k3 ?N ?k4 ?k5 ?bd ?bu ?_; (case k1 => k_asm); (case k2 => k_asm); (case k3 => k_asm); (case k4 => k_asm); (case k5 => first | exact rfl | assumption); (case N => k_asm); (case bd => ktr_room); (case bu => ktr_units); k_whole; intro h9 tk9 F9 N9; (try k_sweep); (try dsimp only); (try k_fold))))
local macro_rules | `(tactic| walk_at "call ref") => `(tactic| (k_here; (with_reducible show wpAny _ _ (call (Value.ref 56) [Value.ref _, Value.int _ _]) _ _ _); k_dflt (refine' halved_c _ ?k1 ?k2 ?k3 ?k4 ?k5 ?N ?mx ?md ?bd ?_; (case k1 => k_asm); (case k2 => k_asm); (case k3 => k_asm); (case k4 => k_asm); (case k5 => first | exact rfl | assumption); (case N => k_asm); (case mx => k_mem); (case md => k_mem); (case bd => ktr_room); k_whole; intro r9 t9 h9 tk9 F9 N9 r1; (try k_sweep); (try dsimp only); (try k_fold))))
local macro_rules | `(tactic| walk_at "call ref") => `(tactic| (k_here; (with_reducible show wpAny _ _ (call (Value.ref 147) [Value.str _ _, Value.int _ _, Value.ref _]) _ _ _); k_dflt (refine' did_u ?k1 ?k2 ?k3 ?k4 ?k5 ?N ?mx ?P1 ?P2 ?bd ?_; (case k1 => k_asm); (case k2 => k_asm); (case k3 => k_asm); (case k4 => k_asm); (case k5 => first | exact rfl | assumption); (case N => k_asm); (case mx => k_mem); (case P1 => k_upd); (case P2 => k_upd); (case bd => ktr_room); k_whole; intro z9 th9 g9 du9 re9 cu9 a9 b9 c9 d9 h9 tk9 F9 N9 ez9 eth9 eg9 edu9 ere9 ecu9; (try k_sweep); (try dsimp only); (try k_fold))))
local macro_rules | `(tactic| walk_at "call ref") => `(tactic| (k_here; (with_reducible show wpAny _ _ (call (Value.ref 140) [Value.str _ _, Value.int _ _, Value.ref _, Value.int _ _, Value.int _ _]) _ _ _); k_dflt (refine' due_c _ _ ?k1 ?k2 ?k3 ?k4 ?k5 ?N ?mq ?bd ?bu ?_; (case k1 => k_asm); (case k2 => k_asm); (case k3 => k_asm); (case k4 => k_asm); (case k5 => first | exact rfl | assumption); (case N => k_asm); (case mq => k_mem); (case bd => ktr_room); (case bu => ktr_units); k_whole; intro r9 nn9 z9 th9 g9 du9 re9 cu9 a9 b9 c9 d9 h9 tk9 F9 N9 l1 ez9 eth9 eg9 edu9 ere9 ecu9; (try k_lt l1); (try k_sweep); (try dsimp only); (try k_fold))))
local macro_rules | `(tactic| walk_at "compareOp NotEq int int") => `(tactic| (k_here; (with_reducible show wpAny _ _ (compareOp CmpOp.NotEq (Value.int _ _) (Value.int _ _)) _ _ _); (refine ne_same (by first | rfl | omega) ?_)))
local macro_rules | `(tactic| walk_at "compareOp NotEq ref ref") => `(tactic| (k_here; (with_reducible show wpAny _ _ (compareOp CmpOp.NotEq (Value.ref _) (Value.ref _)) _ _ _); k_dflt (refine' ne_six ?ha ?hb ?hu ?e ?_; (case ha => is_list); (case hb => is_list); (case hu => first | units_room | ktr_units); (case e => (refine ⟨?_, ?_, ?_, ?_, ?_, ?_⟩ <;> first | rfl | exact Eq.trans (by assumption) (Eq.symm (by assumption)))); k_whole)))
local macro_rules | `(tactic| walk_at "callWith ref") => `(tactic| (k_here; (with_reducible show wpAny _ _ (callWith _ _ _ (backTo _ (starEach [] _)) []) _ _ _); k_dflt (refine' callWith_K0 ?k1 ?k2 ?_; (case k1 => exact Frag.In.keeps (by with_reducible assumption) (Fr.keep (by with_reducible assumption))); (case k2 => k_is); k_whole)))
theorem off3 {z : Str} (h : [Str.ofString "word", Str.ofString "octets", Str.ofString "own"].contains z = false) : z ≠ Str.ofString "word" ∧ z ≠ Str.ofString "octets" ∧ z ≠ Str.ofString "own" := by
  simpa only [List.contains_cons, List.contains_nil, Bool.or_false, Bool.or_eq_false_iff, beq_eq_false_iff_ne] using h
set_option maxRecDepth 100000 in
set_option maxHeartbeats 8000000 in
theorem turn_c (w : World) {loose : List Str} {mean : ExcName → Option Value} {mg mb v b m : Str → Option Value} {h₀ : Heap} {L a : Addr} {ccd : Value} {s : Shared} {Q : Flow → Shared → Prop} {E : Value → Shared → Prop} {own : List (Addr × Obj)} {l x d : Addr} {n : Nat} {i sx sy : Int} {it mt nt sxt syt : Tok} {j0 j1 j2 j3 j4 j5 j6 j7 : Int} {k0 k1 k2 k3 k4 k5 k6 k7 : Tok} {mss most size thr gath dup : Int} {rc ca : Bool} {t0 t1 t2 t3 t4 t5 : Tok}
  (B : Below callerA h₀ [] h₀) (X : (hd.heap_39 w.params).In h₀) (T : Top hd.view_39 loose mean mg mb h₀)
  (em : m = fun y => if y = Str.ofString "turn" then some (.int i it) else if [Str.ofString "word", Str.ofString "octets", Str.ofString "own"].contains y = true then v y else if y = Str.ofString "told" then some (.ref x) else if y = Str.ofString "most" then some (.int most mt) else if y = Str.ofString "mss" then some (.int mss nt) else if y = Str.ofString "source" then some (.ref l) else b y)
  (F : Fr h₀ L s.heap m)
  (N : News h₀ L s.heap ((l, listOf #[.int sx sxt, .int sy syt] n) :: (d, dictOf [⟨j0, .str (Str.ofString "mss") k0, .int mss t0⟩, ⟨j1, .str (Str.ofString "most") k1, .int most t1⟩, ⟨j2, .str (Str.ofString "size") k2, .int size t2⟩, ⟨j3, .str (Str.ofString "threshold") k3, .int thr t3⟩, ⟨j4, .str (Str.ofString "gathered") k4, .int gath t4⟩, ⟨j5, .str (Str.ofString "duplicates") k5, .int dup t5⟩, ⟨j6, .str (Str.ofString "is_recovering") k6, .bool rc⟩, ⟨j7, .str (Str.ofString "is_cautious") k7, .bool ca⟩] 8) :: (x, instObj 101 d) :: own))
  (hx : 0 ≤ sx) (hy : 0 ≤ sy) (hy2 : sy < 2147483647)
  (nld : @Ne Nat l d) (nlx : @Ne Nat l x) (nxd : @Ne Nat x d) (ol : ∀ p ∈ own, p.1 ≠ l) (od : ∀ p ∈ own, p.1 ≠ d) (ox : ∀ p ∈ own, p.1 ≠ x)
  (hend : ∀ sx' sy' sxt' syt' size' thr' gath' dup' rc' ca' t2' t3' t4' t5' h' tk' m', Fr h₀ L h' m' → News h₀ L h' ((l, listOf #[.int sx' sxt', .int sy' syt'] n) :: (d, dictOf [⟨j0, .str (Str.ofString "mss") k0, .int mss t0⟩, ⟨j1, .str (Str.ofString "most") k1, .int most t1⟩, ⟨j2, .str (Str.ofString "size") k2, .int size' t2'⟩, ⟨j3, .str (Str.ofString "threshold") k3, .int thr' t3'⟩, ⟨j4, .str (Str.ofString "gathered") k4, .int gath' t4'⟩, ⟨j5, .str (Str.ofString "duplicates") k5, .int dup' t5'⟩, ⟨j6, .str (Str.ofString "is_recovering") k6, .bool rc'⟩, ⟨j7, .str (Str.ofString "is_cautious") k7, .bool ca'⟩] 8) :: (x, instObj 101 d) :: own) →
    0 ≤ sx' → 0 ≤ sy' → sy' < 2147483647 → (∀ z, z ≠ Str.ofString "turn" → [Str.ofString "word", Str.ofString "octets", Str.ofString "own"].contains z = false → m' z = m z) → Q .next { s with heap := h', toks := tk' }) :
  wpAny (model PySem.Challenge.rw_on0336_01.row.prog w) (callerA.deeper (envOf (Str.ofString "law") lawSc.val L a ccd)) (execs turnB.val (envOf (Str.ofString "law") lawSc.val L a ccd)) Q E s := by
  revert X; k_fill; intro X
  subst em
  unfold turnB lawSc
  dsimp only
  k_steps
  all_goals exact hend _ _ _ _ _ _ _ _ _ _ _ _ _ _ _ _ _ (by k_asm) (kst_newsOf (by k_asm) (List.forall_mem_cons.mpr ⟨by k_mem, List.forall_mem_cons.mpr ⟨by k_mem, List.forall_mem_cons.mpr ⟨by k_mem, (fun p hp => by repeat (first | exact hp | refine List.Mem.tail _ ?_))⟩⟩⟩)) (by assumption) (by assumption) (by assumption) (fun z _ h2 => by
    obtain ⟨o1, o2, o3⟩ := off3 h2
    simp only [if_neg o1, if_neg o2, if_neg o3])
end
section
set_option maxRecDepth 100000
structure St where
  sx : Int
  sy : Int
  sxt : Tok
  syt : Tok
  size : Int
  thr : Int
  gath : Int
  dup : Int
  rc : Bool
  ca : Bool
  t2 : Tok
  t3 : Tok
  t4 : Tok
  t5 : Tok
abbrev LedS (l d x : Addr) (n : Nat) (j0 j1 j2 j3 j4 j5 j6 j7 : Int) (k0 k1 k2 k3 k4 k5 k6 k7 : Tok) (mss most : Int) (t0 t1 : Tok) (c : St) : List (Addr × Obj) :=
  [(l, listOf #[.int c.sx c.sxt, .int c.sy c.syt] n), (d, dictOf [⟨j0, .str (Str.ofString "mss") k0, .int mss t0⟩, ⟨j1, .str (Str.ofString "most") k1, .int most t1⟩, ⟨j2, .str (Str.ofString "size") k2, .int c.size c.t2⟩, ⟨j3, .str (Str.ofString "threshold") k3, .int c.thr c.t3⟩, ⟨j4, .str (Str.ofString "gathered") k4, .int c.gath c.t4⟩, ⟨j5, .str (Str.ofString "duplicates") k5, .int c.dup c.t5⟩, ⟨j6, .str (Str.ofString "is_recovering") k6, .bool c.rc⟩, ⟨j7, .str (Str.ofString "is_cautious") k7, .bool c.ca⟩] 8), (x, instObj 101 d)]
theorem loop_c (w : World) {loose : List Str} {mean : ExcName → Option Value} {mg mb b : Str → Option Value} {h₀ : Heap} {L a : Addr} {ccd : Value} {s : Shared} {Q : Flow → Shared → Prop} {E : Value → Shared → Prop} {led : List (Addr × Obj)} {l x d r : Addr} {n : Nat} {sx sy up : Int} {mt nt sxt syt t₀ u₀ v₀ : Tok} {j0 j1 j2 j3 j4 j5 j6 j7 : Int} {k0 k1 k2 k3 k4 k5 k6 k7 : Tok} {mss most size thr gath dup : Int} {rc ca : Bool} {t0 t1 t2 t3 t4 t5 : Tok}
  (B : Below callerA h₀ [] h₀) (X : (hd.heap_39 w.params).In h₀) (T : Top hd.view_39 loose mean mg mb h₀)
  (R : IsRange s.heap r 0 up 1 t₀ u₀ v₀) (h0 : 0 ≤ up) (h1 : up < 1000)
  (F : Fr h₀ L s.heap (fun y => if y = Str.ofString "told" then some (.ref x) else if y = Str.ofString "most" then some (.int most mt) else if y = Str.ofString "mss" then some (.int mss nt) else if y = Str.ofString "source" then some (.ref l) else b y))
  (N : News h₀ L s.heap led) (m1 : (l, listOf #[.int sx sxt, .int sy syt] n) ∈ led) (m2 : (x, instObj 101 d) ∈ led) (m3 : (d, dictOf [⟨j0, .str (Str.ofString "mss") k0, .int mss t0⟩, ⟨j1, .str (Str.ofString "most") k1, .int most t1⟩, ⟨j2, .str (Str.ofString "size") k2, .int size t2⟩, ⟨j3, .str (Str.ofString "threshold") k3, .int thr t3⟩, ⟨j4, .str (Str.ofString "gathered") k4, .int gath t4⟩, ⟨j5, .str (Str.ofString "duplicates") k5, .int dup t5⟩, ⟨j6, .str (Str.ofString "is_recovering") k6, .bool rc⟩, ⟨j7, .str (Str.ofString "is_cautious") k7, .bool ca⟩] 8) ∈ led)
  (hx : 0 ≤ sx) (hy : 0 ≤ sy) (hy2 : sy < 2147483647)
  (nld : @Ne Nat l d) (nlx : @Ne Nat l x) (nxd : @Ne Nat x d)
  (done : ∀ m' h' tk', Fr h₀ L h' m' → News h₀ L h' [] → Q .next { s with heap := h', toks := tk' }) :
  wpAny (model PySem.Challenge.rw_on0336_01.row.prog w) (callerA.deeper (envOf (Str.ofString "law") lawSc.val L a ccd)) (pyIter (.ref r))
    (fun it s₂ => LoopAtV PySem.Challenge.rw_on0336_01.row.prog w (callerA.deeper (envOf (Str.ofString "law") lawSc.val L a ccd)) h₀ (envOf (Str.ofString "law") lawSc.val L a ccd) (Str.ofString "turn") turnB.val Q E it s₂) E s := by
  refine kst_range (LedS l d x n j0 j1 j2 j3 j4 j5 j6 j7 k0 k1 k2 k3 k4 k5 k6 k7 mss most t0 t1) (fun _ => []) (fun c => 0 ≤ c.sx ∧ 0 ≤ c.sy ∧ c.sy < 2147483647) [Str.ofString "word", Str.ofString "octets", Str.ofString "own"] (fun _ _ => True)
    ⟨sx, sy, sxt, syt, size, thr, gath, dup, rc, ca, t2, t3, t4, t5⟩ rfl R (small_one (by omega) (by omega) (by omega) (by omega)) (rangeSize_nat 0 up) F
    (kst_newsOf N (List.forall_mem_cons.mpr ⟨m1, List.forall_mem_cons.mpr ⟨m3, List.forall_mem_cons.mpr ⟨m2, fun _ hp => nomatch hp⟩⟩⟩)) ⟨hx, hy, hy2⟩ (fun _ hp => nomatch hp) trivial ?_ ?_
  · rintro c pre k t u h tk own - - hoff ⟨f1, f2, f3⟩ - F' N'
    have o1 : ∀ p ∈ own, p.1 ≠ l := fun p hp => hoff p hp l (.head _)
    have o2 : ∀ p ∈ own, p.1 ≠ d := fun p hp => hoff p hp d (.tail _ (.head _))
    have o3 : ∀ p ∈ own, p.1 ≠ x := fun p hp => hoff p hp x (.tail _ (.tail _ (.head _)))
    refine turn_c w B X T rfl F' N' f1 f2 f3 nld nlx nxd o1 o2 o3 ?_
    intro sx' sy' sxt' syt' size' thr' gath' dup' rc' ca' t2' t3' t4' t5' h' tk' m' F2 N2 g1 g2 g3 hm
    refine kst_end (x := Str.ofString "turn") ⟨sx', sy', sxt', syt', size', thr', gath', dup', rc', ca', t2', t3', t4', t5'⟩ F2 N2 ?_ ?_ rfl ⟨g1, g2, g3⟩ (fun _ hp => nomatch hp) ?_ trivial
    · intro p hp
      exact List.mem_append_left own hp
    · intro p hp
      exact .tail _ (.tail _ (.tail _ hp))
    · intro z e1 _ e2
      rw [hm z e1 e2, if_neg e1]
      show (if [Str.ofString "word", Str.ofString "octets", Str.ofString "own"].contains z = true then u z else _) = _
      rw [if_neg (by rw [e2]; decide)]
  · intro c u h tk _ _ F' N'
    exact done _ h tk F' (fun _ hp => nomatch hp)
end
end Cg
open Cg
local macro_rules | `(tactic| k_upd) => `(tactic| first | (refine' Pick.head ?a; (case a => k_all)) | (refine' Pick.tail ?a ?b; (case a => k_ne); (case b => k_upd)))
local macro_rules | `(tactic| walk_at "call ref") => `(tactic| (k_here; (with_reducible show wpAny _ _ (call (Value.ref 119) [Value.ref _, Value.int _ _]) _ _ _); k_dflt (refine' take_u ?k1 ?k2 ?k3 ?N ?P ?k4 ?k5 ?h1 ?h2 ?b1 ?b2 ?b3 ?bd ?_; (case k1 => k_asm); (case k2 => k_asm); (case k3 => k_asm); (case k4 => k_asm); (case k5 => first | exact rfl | assumption); (case N => k_asm); (case P => k_upd); (case h1 => first | decide | omega); (case h2 => first | decide | omega); (case b1 => first | assumption | omega); (case b2 => first | assumption | omega); (case b3 => first | assumption | omega); (case bd => ktr_room); k_whole; intro r9 x9 y9 t9 u9 v9 h9 tk9 F9 N9 r1 r2 x1 y1 y2; (try k_sweep); (try dsimp only); (try k_fold))))
local macro_rules | `(tactic| walk_at "call ref") => `(tactic| (k_here; (with_reducible show wpAny _ _ (call (Value.ref 126) [Value.ref _, Value.ref _]) _ _ _); k_dflt (refine' onei_u ?k1 ?k2 ?k3 ?k4 ?k5 ?N ?P ?hq ?hi ?h0 ?h2 ?b1 ?b2 ?b3 ?bd ?_; (case k1 => k_asm); (case k2 => k_asm); (case k3 => k_asm); (case k4 => k_asm); (case k5 => first | exact rfl | assumption); (case N => k_asm); (case P => k_upd); (case hq => k_mem); (case hi => l_ints); (case h0 => simp only [List.length_cons, List.length_nil]; decide); (case h2 => simp only [List.length_cons, List.length_nil]; decide); (case b1 => first | assumption | omega); (case b2 => first | assumption | omega); (case b3 => first | assumption | omega); (case bd => ktr_room); k_whole; intro r9 x9 y9 t9 u9 v9 h9 tk9 F9 N9 r1 x1 y1 y2; (try k_sweep); (try dsimp only); (try k_fold))))
local macro_rules | `(tactic| walk_at "call ref") => `(tactic| (k_here; (with_reducible show wpAny _ _ (call (Value.ref 126) [Value.ref _, Value.ref _]) _ _ _); k_dflt (refine' onew_u ?k1 ?k2 ?k3 ?k4 ?k5 ?N ?P ?hq ?b1 ?b2 ?b3 ?bd ?_; (case k1 => k_asm); (case k2 => k_asm); (case k3 => k_asm); (case k4 => k_asm); (case k5 => first | exact rfl | assumption); (case N => k_asm); (case P => k_upd); (case hq => k_mem); (case b1 => first | assumption | omega); (case b2 => first | assumption | omega); (case b3 => first | assumption | omega); (case bd => ktr_room); k_whole; intro r9 x9 y9 t9 u9 v9 h9 tk9 F9 N9 x1 y1 y2; (try k_sweep); (try dsimp only); (try k_fold))))
local macro_rules | `(tactic| walk_at "call ref") => `(tactic| (k_here; (with_reducible show wpAny _ _ (call (Value.ref 112) [Value.ref _, Value.int _ _]) _ _ _); k_dflt (refine' pool_c _ ?k1 ?k2 ?k3 ?N ?k4 ?k5 ?hl ?hi ?hf ?bd ?bu ?_; (case k1 => k_asm); (case k2 => k_asm); (case k3 => k_asm); (case k4 => k_asm); (case k5 => first | exact rfl | assumption); (case N => k_asm); (case hl => k_asm); (case hi => l_ints); (case hf => l_fit); (case bd => ktr_room); (case bu => ktr_units); k_whole; intro q9 n9 x9 y9 u9 v9 h9 tk9 F9 N9 l1 x1 y1 y2; (try k_lt l1); (try k_sweep); (try dsimp only); (try k_fold))))
local macro_rules | `(tactic| walk_at "call ref") => `(tactic| (k_here; (with_reducible show wpAny _ _ (call (Value.ref 154) _) _ _ _); k_dflt (refine' small_c _ ?k1 ?k2 ?k3 ?N ?k4 ?k5 ?bd ?bu ?_; (case k1 => k_asm); (case k2 => k_asm); (case k3 => k_asm); (case k4 => k_asm); (case k5 => first | exact rfl | assumption); (case N => k_asm); (case bd => ktr_room); (case bu => ktr_units); k_whole; intro h9 tk9 F9 N9; (try k_sweep); (try dsimp only); (try k_fold))))
local macro_rules | `(tactic| walk_at "call ref") => `(tactic| (k_here; (with_reducible show wpAny _ _ (call (Value.ref 56) [Value.ref _, Value.int _ _]) _ _ _); k_dflt (refine' halved_c _ ?k1 ?k2 ?k3 ?k4 ?k5 ?N ?mx ?md ?bd ?_; (case k1 => k_asm); (case k2 => k_asm); (case k3 => k_asm); (case k4 => k_asm); (case k5 => first | exact rfl | assumption); (case N => k_asm); (case mx => k_mem); (case md => k_mem); (case bd => ktr_room); k_whole; intro r9 t9 h9 tk9 F9 N9 r1; (try k_sweep); (try dsimp only); (try k_fold))))
local macro_rules | `(tactic| walk_at "call ref") => `(tactic| (k_here; (with_reducible show wpAny _ _ (call (Value.ref 147) [Value.str _ _, Value.int _ _, Value.ref _]) _ _ _); k_dflt (refine' did_u ?k1 ?k2 ?k3 ?k4 ?k5 ?N ?mx ?P1 ?P2 ?bd ?_; (case k1 => k_asm); (case k2 => k_asm); (case k3 => k_asm); (case k4 => k_asm); (case k5 => first | exact rfl | assumption); (case N => k_asm); (case mx => k_mem); (case P1 => k_upd); (case P2 => k_upd); (case bd => ktr_room); k_whole; intro z9 th9 g9 du9 re9 cu9 a9 b9 c9 d9 h9 tk9 F9 N9 ez9 eth9 eg9 edu9 ere9 ecu9; (try k_sweep); (try dsimp only); (try k_fold))))
local macro_rules | `(tactic| walk_at "call ref") => `(tactic| (k_here; (with_reducible show wpAny _ _ (call (Value.ref 140) [Value.str _ _, Value.int _ _, Value.ref _, Value.int _ _, Value.int _ _]) _ _ _); k_dflt (refine' due_c _ _ ?k1 ?k2 ?k3 ?k4 ?k5 ?N ?mq ?bd ?bu ?_; (case k1 => k_asm); (case k2 => k_asm); (case k3 => k_asm); (case k4 => k_asm); (case k5 => first | exact rfl | assumption); (case N => k_asm); (case mq => k_mem); (case bd => ktr_room); (case bu => ktr_units); k_whole; intro r9 nn9 z9 th9 g9 du9 re9 cu9 a9 b9 c9 d9 h9 tk9 F9 N9 l1 ez9 eth9 eg9 edu9 ere9 ecu9; (try k_lt l1); (try k_sweep); (try dsimp only); (try k_fold))))
local macro_rules | `(tactic| walk_at "compareOp NotEq int int") => `(tactic| (k_here; (with_reducible show wpAny _ _ (compareOp CmpOp.NotEq (Value.int _ _) (Value.int _ _)) _ _ _); (refine ne_same (by first | rfl | omega) ?_)))
local macro_rules | `(tactic| walk_at "compareOp NotEq ref ref") => `(tactic| (k_here; (with_reducible show wpAny _ _ (compareOp CmpOp.NotEq (Value.ref _) (Value.ref _)) _ _ _); k_dflt (refine' ne_six ?ha ?hb ?hu ?e ?_; (case ha => is_list); (case hb => is_list); (case hu => first | units_room | ktr_units); (case e => (refine ⟨?_, ?_, ?_, ?_, ?_, ?_⟩ <;> first | rfl | exact Eq.trans (by assumption) (Eq.symm (by assumption)))); k_whole)))
local macro_rules | `(tactic| walk_at "callWith ref") => `(tactic| (k_here; (with_reducible show wpAny _ _ (callWith _ _ _ (backTo _ (starEach [] _)) []) _ _ _); k_dflt (refine' callWith_K0 ?k1 ?k2 ?_; (case k1 => exact Frag.In.keeps (by with_reducible assumption) (Fr.keep (by with_reducible assumption))); (case k2 => k_is); k_whole)))
local macro_rules | `(tactic| walk_at "pyIter ref") => `(tactic| (k_here; (with_reducible show wpAny _ _ (pyIter (Value.ref _)) (fun it s₂ => LoopAtV _ _ _ _ _ _ _ _ _ it s₂) _ _); k_dflt (refine' loop_c _ ?B ?X ?T ?R ?h0 ?h1 ?F ?N ?m1 ?m2 ?m3 ?hx ?hy ?hy2 ?e1 ?e2 ?e3 ?_; (case B => k_asm); (case X => k_asm); (case T => k_asm); (case R => assumption); (case h0 => omega); (case h1 => omega); (case F => k_asm); (case N => k_asm); (case m1 => k_mem); (case m2 => k_mem); (case m3 => k_mem); (case hx => assumption); (case hy => assumption); (case hy2 => assumption); (case e1 => omega); (case e2 => omega); (case e3 => omega); k_whole; intro m9 h9 tk9 F9 N9; (try k_sweep); (try dsimp only); (try k_fold))))
set_option maxRecDepth 100000 in
set_option maxHeartbeats 8000000 in
theorem PySem.Challenge.cw_on0336_01_holds : PySem.Challenge.rw_on0336_01.Holds := by
  exact Cg.hd (by (k_go0; (all_goals try k_fold); k_steps))
