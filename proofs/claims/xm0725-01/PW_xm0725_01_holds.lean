import PyProof.Rows.All
import Wide.All
import OpenK.AllK
import Wide.FinOn
import Lean
import PySem.Challenge.RW_xm0725_01
open PySem PySem.W PyProof.Rows PySem.Calls PySem.Spec
set_option Elab.async false
set_option maxRecDepth 100000
set_option linter.all false
set_option compiler.extract_closed false
namespace Mine
section
local macro_rules | `(tactic| refine $_t) => `(tactic| exact False.elim (by assumption))
set_option maxHeartbeats 8000000 in
theorem kv : False → PySem.Challenge.rw_xm0725_01.row.Holds := by
  intro hF
  w_on
  k_head
end
end Mine
namespace Mine
theorem reset_MB : True := by
  w_top off
  trivial
noncomputable abbrev PR : Program := PySem.Challenge.rw_xm0725_01.row.prog
noncomputable abbrev VW : Program := kv.view_1
noncomputable abbrev LO : List Str := looseW kv.view_1 [Str.ofString "MOST_VALUE", Str.ofString "fraction", Str.ofString "length", Str.ofString "Frame"]

/-- what a call of the text's own def at f gives, whatever frame calls it -/
abbrev Tell (w : World) (mean : ExcName → Option Value) (mg mb : Str → Option Value) (n : Nat) (f : Addr) (vs : List Value) (pre : List (Addr × Obj)) (Out : Value → List (Addr × Obj) → Prop) : Prop :=
  ∀ (dp un : Nat) (gd : Option (List Code)) (cn : Str) (cs : Scope) (a : Addr) (ccd : Value) (cl : List (Str × Addr)) (outer : List Env) (A₀ : Around) (base h₀ : Heap) (L : Addr) (m : Str → Option Value) (news : List (Addr × Obj)) (s : Shared)
    (Q E : Value → Shared → Prop),
    Below A₀ base outer h₀ → Fr h₀ L s.heap m → (kv.heap_1 w.params).In h₀ → News h₀ L s.heap news → Top VW LO mean mg mb h₀ → cs.kind = .function → (∀ q ∈ pre, q ∈ news) → dp + n < recursionLimit → un + 8 * n < cLine →
    (∀ r tl h' tk', Fr h₀ L h' m → News h₀ L h' (tl ++ news) → (∀ q ∈ news, ∀ p ∈ tl, q.1 < p.1) → Out r tl → Q r { s with heap := h', toks := tk' }) →
    wpAny (model PR w) (ktrTop dp un gd cn cs L a ccd cl outer) (call (.ref f) vs) Q E s
theorem tell_use {w : World} {mean : ExcName → Option Value} {mg mb : Str → Option Value} {n : Nat} {f : Addr} {vs : List Value} {pre : List (Addr × Obj)} {Out : Value → List (Addr × Obj) → Prop} (C : Tell w mean mg mb n f vs pre Out)
    {dp un : Nat} {gd : Option (List Code)} {cn : Str} {cs : Scope} {a : Addr} {ccd : Value} {cl : List (Str × Addr)} {outer : List Env} {A₀ : Around} {base h₀ : Heap} {L : Addr} {m : Str → Option Value} {news : List (Addr × Obj)} {s : Shared}
    {Q E : Value → Shared → Prop} (B : Below A₀ base outer h₀) (F : Fr h₀ L s.heap m) (X : (kv.heap_1 w.params).In h₀) (N : News h₀ L s.heap news) (T : Top VW LO mean mg mb h₀) (hk : cs.kind = .function) (hp : ∀ q ∈ pre, q ∈ news) (hd : dp + n < recursionLimit) (hu : un + 8 * n < cLine)
    (ret : ∀ r tl h' tk', Fr h₀ L h' m → News h₀ L h' (tl ++ news) → (∀ q ∈ news, ∀ p ∈ tl, q.1 < p.1) → Out r tl → Q r { s with heap := h', toks := tk' }) :
    wpAny (model PR w) (ktrTop dp un gd cn cs L a ccd cl outer) (call (.ref f) vs) Q E s := C _ _ _ _ _ _ _ _ _ _ _ _ _ _ _ _ _ _ B F X N T hk hp hd hu ret
abbrev tupO (l : List Value) : Obj := { cls := .type "tuple", data := .seq l.toArray }

theorem drop_all {news : List (Addr × Obj)} : ∀ p ∈ news, p ∈ news := fun _ h => h
theorem drop_cons {news ns : List (Addr × Obj)} {q : Addr × Obj} (h : ∀ p ∈ news, p ∈ ns) : ∀ p ∈ news, p ∈ q :: ns := fun p hp => .tail _ (h p hp)
theorem ret0 {h₀ h' : Heap} {L : Addr} {m : Str → Option Value} {news news' : List (Addr × Obj)} {s : Shared} {Q : Value → Shared → Prop} {Out : Value → List (Addr × Obj) → Prop} {r : Value} {tk' : Nat}
    (ret : ∀ r tl h' tk', Fr h₀ L h' m → News h₀ L h' (tl ++ news) → (∀ q ∈ news, ∀ p ∈ tl, q.1 < p.1) → Out r tl → Q r { s with heap := h', toks := tk' })
    (F : Fr h₀ L h' m) (N : News h₀ L h' news') (hs : ∀ q ∈ news, q ∈ news') (ho : Out r []) : Q r { s with heap := h', toks := tk' } :=
  ret r [] h' tk' F (cb_drop N hs) ktn_ord0 ho
theorem ret1 {h₀ h' : Heap} {L : Addr} {m : Str → Option Value} {news news' : List (Addr × Obj)} {s : Shared} {Q : Value → Shared → Prop} {Out : Value → List (Addr × Obj) → Prop} {r : Value} {p : Addr} {o : Obj} {tk' : Nat}
    (ret : ∀ r tl h' tk', Fr h₀ L h' m → News h₀ L h' (tl ++ news) → (∀ q ∈ news, ∀ p ∈ tl, q.1 < p.1) → Out r tl → Q r { s with heap := h', toks := tk' })
    (F : Fr h₀ L h' m) (N : News h₀ L h' news') (hm : (p, o) ∈ news') (hs : ∀ q ∈ news, q ∈ news') (hl : AllLt p news) (ho : Out r [(p, o)]) : Q r { s with heap := h', toks := tk' } :=
  ret r [(p, o)] h' tk' F (cb_drop N (List.forall_mem_cons.mpr ⟨hm, hs⟩)) (ktn_ord1 hl) ho
theorem mem_back {α : Type} {a : α} {l : List α} (h : a ∈ l) : List.Mem a l := h
-- LOCAL
local macro_rules | `(tactic| k_mem) => `(tactic| (refine mem_back ?_; first | ktr_member | assumption))
local macro_rules | `(tactic| walk_at "my enter") => `(tactic| (refine' code_def ?k1 ?k2 ?k3 ?k4 ?k5 ?kA ?kF ?kK ?k6 ?k7 ?k8 ?k9 ?kB ?_ ?c2 ?c3 ?c4 ?c5; (case kA | kF => exact rfl); (case kK => first | exact rfl | assumption); (case k1 | k2 | k3 | k4 | k5 => k_asm); (case k6 | k7 => k_is); (case k8 => ktr_room); (case k9 => first | exact BindsTo.of_eq rfl | exact binds_K (by k_in) rfl (by k_is) rfl rfl rfl); (case c5 => decide); (case kB => exact locs rfl); (case c2 | c3 | c4 => exact rfl); k_whole; intro g' L' h' FG' F' N' B' X' T'; (try dsimp only); (try k_fold)))
local macro_rules | `(tactic| k_all) => `(tactic| first | assumption | exact fun p hp => Nat.ne_of_lt (ktn_ltOf (by walk_at "my lt") p hp))
local macro_rules | `(tactic| news_mem) => `(tactic| k_mem)
local macro_rules | `(tactic| k_enter) => `(tactic| walk_at "my enter")
local macro_rules | `(tactic| walk_at "my keep") => `(tactic| repeat (first | exact drop_all | refine drop_cons ?_))
local macro_rules | `(tactic| walk_at "my lt") => `(tactic| first | assumption | exact allLt_of (by assumption) | exact And.right (by assumption) | exact And.right (And.right (by assumption)) | exact And.right (And.right (And.right (by assumption))) | exact And.right (And.right (And.right (And.right (by assumption)))) | exact And.right (And.right (And.right (And.right (And.right (by assumption))))))
-- END LOCAL
theorem reset_A1 : True := by
  w_top off
  trivial
theorem at_ref {M : Model} {A : Around} {vs : List Value} {Q E : Value → Shared → Prop} {s : Shared} (f : Addr) (h : wpAny M A (call (.ref f) vs) Q E s) : wpAny M A (call (.ref f) vs) Q E s := h
theorem gcd_turn {f₀ s₀ f s : Int} (hf : 0 ≤ f) (hs : 0 < s) (h : Int.gcd f s = Int.gcd f₀ s₀) : 0 ≤ s ∧ 0 ≤ Int.fmod f s ∧ Int.gcd s (Int.fmod f s) = Int.gcd f₀ s₀ := by
  have e : Int.fmod f s = f % s := Int.fmod_eq_emod_of_nonneg f (by omega)
  rw [e]
  refine ⟨by omega, Int.emod_nonneg _ (by omega), ?_⟩
  rw [← h]
  obtain ⟨a, rfl⟩ := Int.eq_ofNat_of_zero_le hf
  obtain ⟨b, rfl⟩ := Int.eq_ofNat_of_zero_le (Int.le_of_lt hs)
  rw [← Int.natCast_emod]
  show Nat.gcd b (a % b) = Nat.gcd a b
  rw [Nat.gcd_comm b (a % b), ← Nat.gcd_rec, Nat.gcd_comm]
theorem gcd_meas {f s : Int} (hs : 0 < s) : (Int.fmod f s).toNat < s.toNat := by
  have e : Int.fmod f s = f % s := Int.fmod_eq_emod_of_nonneg f (by omega)
  have := Int.emod_lt_of_pos f hs
  have := Int.emod_nonneg f (Int.ne_of_gt hs)
  omega
theorem gcd_end {a b f s : Int} (hs : 0 ≤ s) (hn : ¬ 0 < s) (hf : 0 ≤ f) (h : Int.gcd f s = Int.gcd (if a < 0 then -a else a) b) : f = (Int.gcd a b : Int) := by
  obtain rfl : s = 0 := by omega
  obtain ⟨f, rfl⟩ := Int.eq_ofNat_of_zero_le hf
  have e : Int.gcd (if a < 0 then -a else a) b = Int.gcd a b := by
    split
    · exact Int.neg_gcd
    · rfl
  rw [← e, ← h]
  show ((f : Nat) : Int) = ((Nat.gcd f 0 : Nat) : Int)
  rw [Nat.gcd_zero_right]
set_option maxHeartbeats 4000000 in
theorem t_cd (w : World) (mean : ExcName → Option Value) (mg mb : Str → Option Value) (a b : Int) (ta tb : Tok) (hb : 0 < b) :
    Tell w mean mg mb 2 73 [.int a ta, .int b tb] [] (fun r tl => (∃ t, r = .int (Int.gcd a b) t) ∧ tl = []) := by
  intro dp un gd cn cs a ccd cl outer A₀ base h₀ L m news s Q E B F X N T hk hR hd hu hret
  refine wpAny_call ?_
  k_with_none
  k_dflt walk_at "my enter"
  (k_with "exec While Compare cons nil" => k_while_given ["first!", "second!"] (fun f₀ s₀ _ f s => 0 ≤ f ∧ 0 ≤ s ∧ Int.gcd f s = Int.gcd f₀ s₀) (fun _ _ _ f s => s.toNat) "first" "second")
  (k_with "state" => exact gcd_turn (by assumption) (by assumption) (by assumption))
  (k_with "measure" => exact gcd_meas (by assumption))
  k_steps
  exact hret _ [] _ _ (by k_asm) (cb_drop (by k_asm) (by walk_at "my keep")) ktn_ord0 ⟨⟨_, congrArg (fun x => Value.int x _) (gcd_end (by assumption) (by assumption) (by assumption) (by assumption))⟩, rfl⟩
theorem at_ref2 {M : Model} {A : Around} {v : Value} {Q E : Value → Shared → Prop} {s : Shared} (f k : Addr) (h : wpAny M A (call (.ref f) [v, .ref k]) Q E s) : wpAny M A (call (.ref f) [v, .ref k]) Q E s := h
theorem skip5 {a b c d e f : Prop} (h : a ∧ b ∧ c ∧ d ∧ e ∧ f) : f := h.2.2.2.2.2
theorem tell_tup {w : World} {mean : ExcName → Option Value} {mg mb : Str → Option Value} {n : Nat} {f : Addr} {vs : List Value} {pre : List (Addr × Obj)} {V1 V2 : Tok → Value} (C : Tell w mean mg mb n f vs pre (fun r tl => ∃ p t1 t2, r = .ref p ∧ tl = [(p, tupO [V1 t1, V2 t2])]))
    {dp un : Nat} {gd : Option (List Code)} {cn : Str} {cs : Scope} {a : Addr} {ccd : Value} {cl : List (Str × Addr)} {outer : List Env} {A₀ : Around} {base h₀ : Heap} {L : Addr} {m : Str → Option Value} {news : List (Addr × Obj)} {s : Shared}
    {Q E : Value → Shared → Prop} (B : Below A₀ base outer h₀) (F : Fr h₀ L s.heap m) (X : (kv.heap_1 w.params).In h₀) (N : News h₀ L s.heap news) (T : Top VW LO mean mg mb h₀) (hk : cs.kind = .function) (hp : ∀ q ∈ pre, q ∈ news) (hd : dp + n < recursionLimit) (hu : un + 8 * n < cLine)
    (ret : ∀ p t1 t2 h' tk', Fr h₀ L h' m → News h₀ L h' ((p, tupO [V1 t1, V2 t2]) :: news) → (∀ q ∈ news, q.1 < p) → Q (.ref p) { s with heap := h', toks := tk' }) : wpAny (model PR w) (ktrTop dp un gd cn cs L a ccd cl outer) (call (.ref f) vs) Q E s :=
  tell_use C B F X N T hk hp hd hu fun r tl h' tk' F' N' l ho => by
    obtain ⟨p, t1, t2, e, e'⟩ := ho
    subst e
    subst e'
    exact ret p t1 t2 h' tk' F' N' fun q hq => l q hq _ (.head _)
theorem tell_int {w : World} {mean : ExcName → Option Value} {mg mb : Str → Option Value} {n : Nat} {f : Addr} {vs : List Value} {pre : List (Addr × Obj)} {v : Int} (C : Tell w mean mg mb n f vs pre (fun r tl => (∃ t, r = .int v t) ∧ tl = []))
    {dp un : Nat} {gd : Option (List Code)} {cn : Str} {cs : Scope} {a : Addr} {ccd : Value} {cl : List (Str × Addr)} {outer : List Env} {A₀ : Around} {base h₀ : Heap} {L : Addr} {m : Str → Option Value} {news : List (Addr × Obj)} {s : Shared}
    {Q E : Value → Shared → Prop} (B : Below A₀ base outer h₀) (F : Fr h₀ L s.heap m) (X : (kv.heap_1 w.params).In h₀) (N : News h₀ L s.heap news) (T : Top VW LO mean mg mb h₀) (hk : cs.kind = .function) (hp : ∀ q ∈ pre, q ∈ news) (hd : dp + n < recursionLimit) (hu : un + 8 * n < cLine)
    (ret : ∀ t h' tk', Fr h₀ L h' m → News h₀ L h' news → Q (.int v t) { s with heap := h', toks := tk' }) : wpAny (model PR w) (ktrTop dp un gd cn cs L a ccd cl outer) (call (.ref f) vs) Q E s :=
  tell_use C B F X N T hk hp hd hu fun r tl h' tk' F' N' l ho => by
    obtain ⟨⟨t, e⟩, e'⟩ := ho
    subst e
    subst e'
    exact ret t h' tk' F' N'
theorem tell_val {w : World} {mean : ExcName → Option Value} {mg mb : Str → Option Value} {n : Nat} {f : Addr} {vs : List Value} {pre : List (Addr × Obj)} {v : Value} (C : Tell w mean mg mb n f vs pre (fun r tl => r = v ∧ tl = []))
    {dp un : Nat} {gd : Option (List Code)} {cn : Str} {cs : Scope} {a : Addr} {ccd : Value} {cl : List (Str × Addr)} {outer : List Env} {A₀ : Around} {base h₀ : Heap} {L : Addr} {m : Str → Option Value} {news : List (Addr × Obj)} {s : Shared}
    {Q E : Value → Shared → Prop} (B : Below A₀ base outer h₀) (F : Fr h₀ L s.heap m) (X : (kv.heap_1 w.params).In h₀) (N : News h₀ L s.heap news) (T : Top VW LO mean mg mb h₀) (hk : cs.kind = .function) (hp : ∀ q ∈ pre, q ∈ news) (hd : dp + n < recursionLimit) (hu : un + 8 * n < cLine)
    (ret : ∀ h' tk', Fr h₀ L h' m → News h₀ L h' news → Q v { s with heap := h', toks := tk' }) : wpAny (model PR w) (ktrTop dp un gd cn cs L a ccd cl outer) (call (.ref f) vs) Q E s :=
  tell_use C B F X N T hk hp hd hu fun r tl h' tk' F' N' l ho => by
    obtain ⟨e, e'⟩ := ho
    subst e
    subst e'
    exact ret h' tk' F' N'
-- LOCAL
local macro_rules | `(tactic| walk_at "my pre") => `(tactic| (repeat (first | exact List.forall_mem_nil _ | refine List.forall_mem_cons.mpr ⟨by k_mem, ?_⟩)))
local macro_rules | `(tactic| walk_at "my side") => `(tactic| first | omega | assumption | (simp only [List.length_cons, List.length_nil]; omega))
local macro_rules | `(tactic| walk_at "my u") => `(tactic| ((case B | F | X | N | T => k_asm); (case hk => first | exact rfl | assumption); (case hp => walk_at "my pre"); (case hd => ktr_room); (case hu => ktr_units)))
local macro_rules | `(tactic| walk_at "my fold") => `(tactic| ((try dsimp only); (try k_fold)))
local macro_rules | `(tactic| walk_at "my int") => `(tactic| (case' ret => intro t9 h9 tk9 F9 N9; walk_at "my fold"))
local macro_rules | `(tactic| walk_at "my tup") => `(tactic| (case' ret => intro p9 t9 u9 h9 tk9 F9 N9 hl9; (try k_lt hl9); walk_at "my fold"))
local macro_rules | `(tactic| walk_at "my val") => `(tactic| (case' ret => intro h9 tk9 F9 N9; walk_at "my fold"))
local macro_rules | `(tactic| walk_at "call ref") => `(tactic| (k_here; with_reducible apply at_ref 73; k_dflt (apply tell_int (t_cd _ _ _ _ _ _ _ _ _); walk_at "my u"; walk_at "my int")))
local macro_rules | `(tactic| walk_at "my lt2") => `(tactic| first | walk_at "my lt" | exact skip5 (by walk_at "my lt") | exact skip5 (skip5 (by walk_at "my lt")) | exact skip5 (skip5 (skip5 (by walk_at "my lt"))))
-- END LOCAL
theorem reset_A2 : True := by
  w_top off
  trivial
theorem gcd_facts {x y : Int} (hy : 0 < y) : (0 : Int) < Int.gcd x y ∧ (Int.gcd x y : Int) ≤ y := by
  have h1 := Int.gcd_pos_of_ne_zero_right x (b := y) (by omega)
  have h2 := Int.gcd_le_right x (b := y) hy
  omega
/-- the two halves of a fraction in its lowest terms -/
def fr1 (x y : Int) : Int := Int.fdiv x (Int.gcd x y)
def fr2 (x y : Int) : Int := Int.fdiv y (Int.gcd x y)
set_option maxHeartbeats 4000000 in
theorem t_frac (w : World) (mean : ExcName → Option Value) (mg mb : Str → Option Value) (x y : Int) (tx ty : Tok) (hy : 0 < y) (hz : y < 1073741824) :
    Tell w mean mg mb 4 81 [.int x tx, .int y ty] [] (fun r tl => ∃ p t1 t2, r = .ref p ∧ tl = [(p, tupO [.int (fr1 x y) t1, .int (fr2 x y) t2])]) := by
  intro dp un gd cn cs a ccd cl outer A₀ base h₀ L m news s Q E B F X N T hk hR hd hu hret
  obtain ⟨hg, hg'⟩ := gcd_facts (x := x) hy
  refine wpAny_call ?_
  k_with_none
  k_dflt walk_at "my enter"
  k_steps
  all_goals try (exfalso; omega)
  refine ret1 hret (by k_asm) (by k_asm) (by k_mem) (by walk_at "my keep") (by walk_at "my lt") ⟨_, _, _, rfl, rfl⟩
-- LOCAL
local macro_rules | `(tactic| walk_at "call ref") => `(tactic| (k_here; with_reducible apply at_ref 81; k_dflt (apply tell_tup (t_frac _ _ _ _ _ _ _ _ _ _); walk_at "my u"; walk_at "my tup")))
-- END LOCAL
theorem reset_A3 : True := by
  w_top off
  trivial
theorem mul_small {a b : Int} (ha : 0 < a) (ha' : a < 10000) (hb : 0 < b) (hb' : b < 10000) : 0 < a * b ∧ a * b < 1073741824 := by
  have h1 : 0 < a * b := Int.mul_pos ha hb
  have h2 : a * b ≤ 9999 * 9999 := Int.mul_le_mul (by omega) (by omega) (by omega) (by omega)
  omega
set_option maxHeartbeats 4000000 in
theorem t_times (w : World) (mean : ExcName → Option Value) (mg mb : Str → Option Value) (pa pb : Addr) (a0 a1 b0 b1 : Int) (t1 t2 t3 t4 : Tok) (ha : -100000 < a0 ∧ a0 < 100000) (hb : -100000 < b0 ∧ b0 < 100000) (ha1 : 0 < a1 ∧ a1 < 10000) (hb1 : 0 < b1 ∧ b1 < 10000) :
    Tell w mean mg mb 6 88 [.ref pa, .ref pb] [(pa, tupO [.int a0 t1, .int a1 t2]), (pb, tupO [.int b0 t3, .int b1 t4])] (fun r tl => ∃ p t1 t2, r = .ref p ∧ tl = [(p, tupO [.int (fr1 (a0 * b0) (a1 * b1)) t1, .int (fr2 (a0 * b0) (a1 * b1)) t2])]) := by
  intro dp un gd cn cs a ccd cl outer A₀ base h₀ L m news s Q E B F X N T hk hR hd hu hret
  obtain ⟨hm1, hm2⟩ := mul_small ha1.1 ha1.2 hb1.1 hb1.2
  have ma := hR _ (List.Mem.head _)
  have mb := hR _ (List.Mem.tail _ (List.Mem.head _))
  refine wpAny_call ?_
  k_with_none
  k_dflt walk_at "my enter"
  k_steps
  refine ret1 hret (by k_asm) (by k_asm) (by k_mem) (by walk_at "my keep") (by walk_at "my lt") ⟨_, _, _, rfl, rfl⟩
set_option maxHeartbeats 4000000 in
theorem t_div100 (w : World) (mean : ExcName → Option Value) (mg mb : Str → Option Value) (pa : Addr) (a0 a1 : Int) (t1 t2 : Tok) (ha1 : 0 < a1 ∧ a1 < 10000) :
    Tell w mean mg mb 6 95 [.ref pa, .ref 180] [(pa, tupO [.int a0 t1, .int a1 t2])] (fun r tl => ∃ p t1 t2, r = .ref p ∧ tl = [(p, tupO [.int (fr1 (a0 * 1) (a1 * 100)) t1, .int (fr2 (a0 * 1) (a1 * 100)) t2])]) := by
  intro dp un gd cn cs a ccd cl outer A₀ base h₀ L m news s Q E B F X N T hk hR hd hu hret
  have ma := hR _ (List.Mem.head _)
  refine wpAny_call ?_
  k_with_none
  k_dflt walk_at "my enter"
  k_steps
  refine ret1 hret (by k_asm) (by k_asm) (by k_mem) (by walk_at "my keep") (by walk_at "my lt") ⟨_, _, _, rfl, rfl⟩
set_option maxHeartbeats 4000000 in
theorem t_div2 (w : World) (mean : ExcName → Option Value) (mg mb : Str → Option Value) (pa : Addr) (a0 a1 : Int) (t1 t2 : Tok) (ha1 : 0 < a1 ∧ a1 < 10000) :
    Tell w mean mg mb 6 95 [.ref pa, .ref 197] [(pa, tupO [.int a0 t1, .int a1 t2])] (fun r tl => ∃ p t1 t2, r = .ref p ∧ tl = [(p, tupO [.int (fr1 (a0 * 1) (a1 * 2)) t1, .int (fr2 (a0 * 1) (a1 * 2)) t2])]) := by
  intro dp un gd cn cs a ccd cl outer A₀ base h₀ L m news s Q E B F X N T hk hR hd hu hret
  have ma := hR _ (List.Mem.head _)
  refine wpAny_call ?_
  k_with_none
  k_dflt walk_at "my enter"
  k_steps
  refine ret1 hret (by k_asm) (by k_asm) (by k_mem) (by walk_at "my keep") (by walk_at "my lt") ⟨_, _, _, rfl, rfl⟩
/-- what sign_of gives -/
def sgn (x : Int) : Int := if x > 0 then 1 else if x < 0 then -1 else 0
theorem sgn_pos {x : Int} (h : 0 < x) : (1 : Int) = sgn x := by unfold sgn; rw [if_pos h]
theorem sgn_neg {x : Int} (h : x < 0) : (-1 : Int) = sgn x := by unfold sgn; rw [if_neg (by omega), if_pos h]
theorem sgn_zero {x : Int} (h : ¬ 0 < x) (h' : ¬ x < 0) : (0 : Int) = sgn x := by unfold sgn; rw [if_neg h, if_neg h']
theorem int_is {x y : Int} {t : Tok} (h : x = y) : ∃ t', Value.int x t = Value.int y t' := ⟨t, h ▸ rfl⟩
set_option maxHeartbeats 4000000 in
theorem t_cmp (w : World) (mean : ExcName → Option Value) (mg mb : Str → Option Value) (pa pb : Addr) (a0 a1 b0 b1 : Int) (t1 t2 t3 t4 : Tok) (ha1 : 0 < a1 ∧ a1 < 1073741824) (hb1 : 0 < b1 ∧ b1 < 1073741824) :
    Tell w mean mg mb 6 109 [.ref pa, .ref pb] [(pa, tupO [.int a0 t1, .int a1 t2]), (pb, tupO [.int b0 t3, .int b1 t4])] (fun r tl => (∃ t, r = .int (sgn (a0 * b1 - b0 * a1)) t) ∧ tl = []) := by
  intro dp un gd cn cs a ccd cl outer A₀ base h₀ L m news s Q E B F X N T hk hR hd hu hret
  have ma := hR _ (List.Mem.head _)
  have mb := hR _ (List.Mem.tail _ (List.Mem.head _))
  refine wpAny_call ?_
  k_with_none
  k_dflt walk_at "my enter"
  k_steps
  all_goals refine ret0 hret (by k_asm) (by k_asm) (by walk_at "my keep") ⟨int_is ?_, rfl⟩
  all_goals first | exact sgn_pos (by assumption) | exact sgn_neg (by assumption) | exact sgn_zero (by assumption) (by assumption)
set_option maxHeartbeats 4000000 in
theorem t_cmp0 (w : World) (mean : ExcName → Option Value) (mg mb : Str → Option Value) (pa : Addr) (a0 a1 : Int) (t1 t2 : Tok) (ha1 : 0 < a1 ∧ a1 < 1073741824) :
    Tell w mean mg mb 6 109 [.ref pa, .ref 66] [(pa, tupO [.int a0 t1, .int a1 t2])] (fun r tl => (∃ t, r = .int (sgn (a0 * 1 - 0 * a1)) t) ∧ tl = []) := by
  intro dp un gd cn cs a ccd cl outer A₀ base h₀ L m news s Q E B F X N T hk hR hd hu hret
  have ma := hR _ (List.Mem.head _)
  refine wpAny_call ?_
  k_with_none
  k_dflt walk_at "my enter"
  k_steps
  all_goals refine ret0 hret (by k_asm) (by k_asm) (by walk_at "my keep") ⟨int_is ?_, rfl⟩
  all_goals first | exact sgn_pos (by assumption) | exact sgn_neg (by assumption) | exact sgn_zero (by assumption) (by assumption)
-- LOCAL
local macro_rules | `(tactic| walk_at "call ref") => `(tactic| (k_here; first | (with_reducible apply at_ref 88; k_dflt (apply tell_tup (t_times _ _ _ _ _ _ _ _ _ _ _ _ _ _ _ _ _ _); walk_at "my u"; walk_at "my tup")) | (with_reducible apply at_ref2 95 180; k_dflt (apply tell_tup (t_div100 _ _ _ _ _ _ _ _ _ _); walk_at "my u"; walk_at "my tup")) | (with_reducible apply at_ref2 95 197; k_dflt (apply tell_tup (t_div2 _ _ _ _ _ _ _ _ _ _); walk_at "my u"; walk_at "my tup")) | (with_reducible apply at_ref2 109 66; k_dflt (apply tell_int (t_cmp0 _ _ _ _ _ _ _ _ _ _); walk_at "my u"; walk_at "my int")) | (with_reducible apply at_ref 109; k_dflt (apply tell_int (t_cmp _ _ _ _ _ _ _ _ _ _ _ _ _ _ _ _); walk_at "my u"; walk_at "my int"))))
-- END LOCAL
theorem reset_A4 : True := by
  w_top off
  trivial
theorem sgn_lt {x : Int} : sgn x < 0 ↔ x < 0 := by
  unfold sgn
  split
  · omega
  · split <;> omega
set_option maxHeartbeats 4000000 in
theorem t_least (w : World) (mean : ExcName → Option Value) (mg mb : Str → Option Value) (pl pa pb : Addr) (n : Nat) (a0 a1 b0 b1 : Int) (t1 t2 t3 t4 : Tok) (ha1 : 0 < a1 ∧ a1 < 1073741824) (hb1 : 0 < b1 ∧ b1 < 1073741824) :
    Tell w mean mg mb 8 116 [.ref pl] [(pl, listOf [.ref pa, .ref pb].toArray n), (pa, tupO [.int a0 t1, .int a1 t2]), (pb, tupO [.int b0 t3, .int b1 t4])] (fun r tl => r = (if b0 * a1 - a0 * b1 < 0 then .ref pb else .ref pa) ∧ tl = []) := by
  intro dp un gd cn cs a ccd cl outer A₀ base h₀ L m news s Q E B F X N T hk hR hd hu hret
  have ml := hR _ (List.Mem.head _)
  have ma := hR _ (List.Mem.tail _ (List.Mem.head _))
  have mb := hR _ (List.Mem.tail _ (List.Mem.tail _ (List.Mem.head _)))
  replace N := cb_drop (news := (pl, _) :: (pa, _) :: (pb, _) :: news) N (List.forall_mem_cons.mpr ⟨ml, List.forall_mem_cons.mpr ⟨ma, List.forall_mem_cons.mpr ⟨mb, drop_all⟩⟩⟩)
  refine wpAny_call ?_
  k_with_none
  k_dflt walk_at "my enter"
  k_steps
  all_goals refine ret0 hret (by k_asm) (by k_asm) (by walk_at "my keep") ⟨?_, rfl⟩
  all_goals (simp only [sgn_lt] at *)
  all_goals (split <;> first | rfl | (exfalso; omega))
theorem gcd_end2 {a b f s : Int} (h : Int.gcd f s = Int.gcd (if a < 0 then -a else a) b) (hs : 0 ≤ s) (hn : ¬ 0 < s) (hf : 0 ≤ f) : f = (Int.gcd a b : Int) := gcd_end hs hn hf h
set_option maxHeartbeats 4000000 in
theorem t_lowest (w : World) (mean : ExcName → Option Value) (mg mb : Str → Option Value) (x y : Int) (tx ty : Tok) (hy : 0 < y) (hz : y < 1073741824) :
    Tell w mean mg mb 4 307 [.int x tx, .int y ty] [] (fun r tl => ∃ p t1 t2, r = .ref p ∧ tl = [(p, tupO [.int (fr1 x y) t1, .int (fr2 x y) t2])]) := by
  intro dp un gd cn cs a ccd cl outer A₀ base h₀ L m news s Q E B F X N T hk hR hd hu hret
  refine wpAny_call ?_
  k_with_none
  k_dflt walk_at "my enter"
  (k_with "exec While Compare cons nil" => k_while_given ["one!", "other!"] (fun f₀ s₀ _ f s => 0 ≤ f ∧ 0 ≤ s ∧ Int.gcd f s = Int.gcd f₀ s₀) (fun _ _ _ f s => s.toNat) "one" "other")
  (k_with "state" => exact gcd_turn (by assumption) (by assumption) (by assumption))
  (k_with "measure" => exact gcd_meas (by assumption))
  k_steps
  have e := gcd_end2 (a := x) (b := y) (by assumption) (by assumption) (by assumption) (by assumption)
  subst e
  obtain ⟨hg, hg'⟩ := gcd_facts (x := x) hy
  k_steps
  refine ret1 hret (by k_asm) (by k_asm) (by k_mem) (by walk_at "my keep") (by walk_at "my lt") ⟨_, _, _, rfl, rfl⟩
-- LOCAL
local macro_rules | `(tactic| walk_at "call ref") => `(tactic| (k_here; first | (with_reducible apply at_ref 116; k_dflt (apply tell_val (t_least _ _ _ _ _ _ _ _ _ _ _ _ _ _ _ _ _ _); walk_at "my u"; walk_at "my val")) | (with_reducible apply at_ref 307; k_dflt (apply tell_tup (t_lowest _ _ _ _ _ _ _ _ _ _); walk_at "my u"; walk_at "my tup"))))
-- END LOCAL
theorem reset_A5 : True := by
  w_top off
  trivial
set_option maxHeartbeats 4000000 in
theorem t_cut (w : World) (mean : ExcName → Option Value) (mg mb : Str → Option Value) (pa pb : Addr) (a0 a1 b0 b1 : Int) (t1 t2 t3 t4 : Tok) (ha : -100000 < a0 ∧ a0 < 100000) (hb : -100000 < b0 ∧ b0 < 100000) (ha1 : 0 < a1 ∧ a1 < 100000) (hb1 : 0 < b1 ∧ b1 < 100000) :
    Tell w mean mg mb 6 321 [.ref pa, .ref pb] [(pa, tupO [.int a0 t1, .int a1 t2]), (pb, tupO [.int b0 t3, .int b1 t4])] (fun r tl => (2 * a0 * b1 ≤ b0 * a1 ∧ r = .ref pa ∧ tl = []) ∨ (¬ 2 * a0 * b1 ≤ b0 * a1 ∧ ∃ p t1 t2, r = .ref p ∧ tl = [(p, tupO [.int (fr1 b0 (2 * b1)) t1, .int (fr2 b0 (2 * b1)) t2])])) := by
  intro dp un gd cn cs a ccd cl outer A₀ base h₀ L m news s Q E B F X N T hk hR hd hu hret
  have ma := hR _ (List.Mem.head _)
  have mb := hR _ (List.Mem.tail _ (List.Mem.head _))
  refine wpAny_call ?_
  k_with_none
  k_dflt walk_at "my enter"
  k_steps
  · refine ret0 hret (by k_asm) (by k_asm) (by walk_at "my keep") (.inl ⟨by omega, rfl, rfl⟩)
  · refine ret1 hret (by k_asm) (by k_asm) (by k_mem) (by walk_at "my keep") (by walk_at "my lt") (.inr ⟨by omega, _, _, _, rfl, rfl⟩)
theorem reset_A6 : True := by
  w_top off
  trivial
/-- a call that changes one object (at ps) of the caller's ledger -/
abbrev TellU (w : World) (mean : ExcName → Option Value) (mg mb : Str → Option Value) (n : Nat) (f : Addr) (vs : List Value) (ps : Addr) (o : Obj) (pre : List (Addr × Obj)) (Out : Value → List (Addr × Obj) → Obj → Prop) : Prop :=
  ∀ (dp un : Nat) (gd : Option (List Code)) (cn : Str) (cs : Scope) (a : Addr) (ccd : Value) (cl : List (Str × Addr)) (outer : List Env) (A₀ : Around) (base h₀ : Heap) (L : Addr) (m : Str → Option Value) (news : List (Addr × Obj)) (nw : Obj → List (Addr × Obj)) (s : Shared)
    (Q E : Value → Shared → Prop),
    Below A₀ base outer h₀ → Fr h₀ L s.heap m → (kv.heap_1 w.params).In h₀ → News h₀ L s.heap news → Top VW LO mean mg mb h₀ → cs.kind = .function → (∀ o', Upd ps o o' news (nw o')) → (∀ q ∈ pre, q ∈ news ∧ q.1 ≠ ps) → dp + n < recursionLimit → un + 8 * n < cLine →
    (∀ r tl o' h' tk', Fr h₀ L h' m → News h₀ L h' (tl ++ nw o') → (∀ q ∈ news, ∀ p ∈ tl, q.1 < p.1) → Out r tl o' → Q r { s with heap := h', toks := tk' }) →
    wpAny (model PR w) (ktrTop dp un gd cn cs L a ccd cl outer) (call (.ref f) vs) Q E s
theorem tellU_use {w : World} {mean : ExcName → Option Value} {mg mb : Str → Option Value} {n : Nat} {f : Addr} {vs : List Value} {ps : Addr} {o : Obj} {pre : List (Addr × Obj)} {Out : Value → List (Addr × Obj) → Obj → Prop} (C : TellU w mean mg mb n f vs ps o pre Out)
    {dp un : Nat} {gd : Option (List Code)} {cn : Str} {cs : Scope} {a : Addr} {ccd : Value} {cl : List (Str × Addr)} {outer : List Env} {A₀ : Around} {base h₀ : Heap} {L : Addr} {m : Str → Option Value} {news : List (Addr × Obj)} {nw : Obj → List (Addr × Obj)} {s : Shared}
    {Q E : Value → Shared → Prop} (B : Below A₀ base outer h₀) (F : Fr h₀ L s.heap m) (X : (kv.heap_1 w.params).In h₀) (N : News h₀ L s.heap news) (T : Top VW LO mean mg mb h₀) (hk : cs.kind = .function) (hU : ∀ o', Upd ps o o' news (nw o')) (hp : ∀ q ∈ pre, q ∈ news ∧ q.1 ≠ ps) (hd : dp + n < recursionLimit) (hu : un + 8 * n < cLine)
    (ret : ∀ r tl o' h' tk', Fr h₀ L h' m → News h₀ L h' (tl ++ nw o') → (∀ q ∈ news, ∀ p ∈ tl, q.1 < p.1) → Out r tl o' → Q r { s with heap := h', toks := tk' }) :
    wpAny (model PR w) (ktrTop dp un gd cn cs L a ccd cl outer) (call (.ref f) vs) Q E s := C _ _ _ _ _ _ _ _ _ _ _ _ _ _ _ _ _ _ _ B F X N T hk hU hp hd hu ret
theorem upd_mem {d : Addr} {o o' : Obj} {l l' : List (Addr × Obj)} (U : Upd d o o' l l') : (d, o) ∈ l ∧ ∀ p ∈ l', p = (d, o') ∨ (p ∈ l ∧ p.1 ≠ d) := by
  induction U with
  | head h =>
    refine ⟨.head _, fun p hp => ?_⟩
    rcases List.mem_cons.mp hp with e | e
    · exact .inl e
    · exact .inr ⟨.tail _ e, h p e⟩
  | tail hne _ ih =>
    refine ⟨.tail _ ih.1, fun q hq => ?_⟩
    rcases List.mem_cons.mp hq with e | e
    · exact .inr ⟨by rw [e]; exact .head _, by rw [e]; exact hne⟩
    · rcases ih.2 q e with z | z
      · exact .inl z
      · exact .inr ⟨.tail _ z.1, z.2⟩
/-- the ledger with the changed object ahead, and the others -/
theorem upd_open {d : Addr} {o : Obj} {news : List (Addr × Obj)} {nw : Obj → List (Addr × Obj)} (hU : ∀ o', Upd d o o' news (nw o')) :
    ∃ oth : List (Addr × Obj), (∀ p ∈ (d, o) :: oth, p ∈ news) ∧ (∀ p ∈ oth, p.1 ≠ d) ∧ (∀ p ∈ news, p.1 ≠ d → p ∈ oth) ∧ ∀ o', ∀ p ∈ nw o', p ∈ (d, o') :: oth := by
  refine ⟨news.filter fun p => decide (p.1 ≠ d), ?_, ?_, ?_, ?_⟩
  · refine List.forall_mem_cons.mpr ⟨(upd_mem (hU o)).1, fun p hp => (List.mem_filter.mp hp).1⟩
  · intro p hp
    exact of_decide_eq_true (List.mem_filter.mp hp).2
  · intro p hp hne
    exact List.mem_filter.mpr ⟨hp, decide_eq_true hne⟩
  · intro o' p hp
    rcases (upd_mem (hU o')).2 p hp with e | e
    · rw [e]; exact .head _
    · exact .tail _ (List.mem_filter.mpr ⟨e.1, decide_eq_true e.2⟩)
theorem drop_two {news ns : List (Addr × Obj)} {q : Addr × Obj} (h1 : q ∈ ns) (h : ∀ p ∈ news, p ∈ ns) : ∀ p ∈ q :: news, p ∈ ns := List.forall_mem_cons.mpr ⟨h1, h⟩
theorem drop_trans {a b c : List (Addr × Obj)} (h1 : ∀ p ∈ a, p ∈ b) (h2 : ∀ p ∈ b, p ∈ c) : ∀ p ∈ a, p ∈ c := fun p hp => h2 p (h1 p hp)
abbrev srcO (x y : Int) (tx ty : Tok) (n : Nat) : Obj := listOf [.int x tx, .int y ty].toArray n
theorem fm_in (x : Int) {k : Int} (hk : 0 < k) : 0 ≤ Int.fmod x k ∧ Int.fmod x k < k := ⟨Int.fmod_nonneg_of_pos _ hk, Int.fmod_lt_of_pos _ hk⟩
theorem fd_in {x k : Int} (hx : 0 ≤ x) (hk : 0 < k) : 0 ≤ Int.fdiv x k := by
  rw [Int.fdiv_eq_ediv_of_nonneg x (by omega)]
  exact Int.ediv_nonneg hx (by omega)
set_option maxHeartbeats 4000000 in
theorem t_take (w : World) (mean : ExcName → Option Value) (mg mb : Str → Option Value) (ps : Addr) (x y top : Int) (tx ty tt : Tok) (n : Nat) (hx : 0 ≤ x) (hy : 0 ≤ y ∧ y < 2147483647) (ht : 0 < top ∧ top < 1000) :
    TellU w mean mg mb 4 293 [.ref ps, .int top tt] ps (srcO x y tx ty n) [] (fun r tl o' => ∃ (z : Int) (t : Tok) (x' y' : Int) (tx' ty' : Tok) (n' : Nat), r = .int z t ∧ 0 ≤ z ∧ z < top ∧ tl = [] ∧ o' = srcO x' y' tx' ty' n' ∧ 0 ≤ x' ∧ 0 ≤ y' ∧ y' < 2147483647) := by
  intro dp un gd cn cs a ccd cl outer A₀ base h₀ L m news nw s Q E B F X N T hk hU hR hd hu hret
  obtain ⟨oth, ho1, ho2, ho3, ho4⟩ := upd_open hU
  replace N := cb_drop N ho1
  refine wpAny_call ?_
  k_with_none
  k_dflt walk_at "my enter"
  k_steps
  rotate_left
  · generalize hz : ([x, ([x, y].getD (Int.toNat 1) 0 * 39373 + 7).fmod 2147483647].getD (Int.toNat 1) 0) = z
    have hz1 : 0 ≤ z ∧ z < 2147483647 := by rw [← hz]; exact fm_in _ (by decide)
    k_steps
    exact hret _ [] _ _ _ (by k_asm) (cb_drop (by k_asm) (ho4 _)) ktn_ord0 ⟨_, _, _, _, _, _, _, rfl, (fm_in _ ht.1).1, (fm_in _ ht.1).2, rfl, rfl, hx, (fm_in _ (by decide)).1, (fm_in _ (by decide)).2⟩
  · refine hret _ [] _ _ _ (by k_asm) (cb_drop (by k_asm) (ho4 _)) ktn_ord0 ⟨_, _, _, _, _, _, _, rfl, (fm_in _ ht.1).1, (fm_in _ ht.1).2, rfl, rfl, ?_, hy.1, hy.2⟩
    exact fd_in hx ht.1
theorem tellU_take {w : World} {mean : ExcName → Option Value} {mg mb : Str → Option Value} {n : Nat} {f : Addr} {vs : List Value} {ps : Addr} {o : Obj} {pre : List (Addr × Obj)} {top : Int} (C : TellU w mean mg mb n f vs ps o pre (fun r tl o' => ∃ (z : Int) (t : Tok) (x' y' : Int) (tx' ty' : Tok) (n' : Nat), r = .int z t ∧ 0 ≤ z ∧ z < top ∧ tl = [] ∧ o' = srcO x' y' tx' ty' n' ∧ 0 ≤ x' ∧ 0 ≤ y' ∧ y' < 2147483647))
    {dp un : Nat} {gd : Option (List Code)} {cn : Str} {cs : Scope} {a : Addr} {ccd : Value} {cl : List (Str × Addr)} {outer : List Env} {A₀ : Around} {base h₀ : Heap} {L : Addr} {m : Str → Option Value} {news : List (Addr × Obj)} {nw : Obj → List (Addr × Obj)} {s : Shared}
    {Q E : Value → Shared → Prop} (B : Below A₀ base outer h₀) (F : Fr h₀ L s.heap m) (X : (kv.heap_1 w.params).In h₀) (N : News h₀ L s.heap news) (T : Top VW LO mean mg mb h₀) (hk : cs.kind = .function) (hU : ∀ o', Upd ps o o' news (nw o')) (hp : ∀ q ∈ pre, q ∈ news ∧ q.1 ≠ ps) (hd : dp + n < recursionLimit) (hu : un + 8 * n < cLine)
    (ret : ∀ (z : Int) t x' y' tx' ty' n' h' tk', Fr h₀ L h' m → News h₀ L h' (nw (srcO x' y' tx' ty' n')) → 0 ≤ z → z < top → 0 ≤ x' → 0 ≤ y' → y' < 2147483647 → Q (.int z t) { s with heap := h', toks := tk' }) : wpAny (model PR w) (ktrTop dp un gd cn cs L a ccd cl outer) (call (.ref f) vs) Q E s :=
  tellU_use C B F X N T hk hU hp hd hu fun r tl o' h' tk' F' N' _ ho => by
    obtain ⟨z, t, x', y', tx', ty', n', e, h1, h2, e', e'', h3, h4, h5⟩ := ho
    subst e
    subst e'
    subst e''
    exact ret z t x' y' tx' ty' n' h' tk' F' N' h1 h2 h3 h4 h5
-- LOCAL
local macro_rules | `(tactic| walk_at "my upd") => `(tactic| (intro o'; k_upd))
local macro_rules | `(tactic| walk_at "my preU") => `(tactic| (repeat (first | exact List.forall_mem_nil _ | refine List.forall_mem_cons.mpr ⟨⟨by k_mem, by k_ne⟩, ?_⟩)))
local macro_rules | `(tactic| walk_at "my uU") => `(tactic| ((case B | F | X | N | T => k_asm); (case hk => first | exact rfl | assumption); (case hp => walk_at "my preU"); (case hU => walk_at "my upd"); (case hd => ktr_room); (case hu => ktr_units)))
local macro_rules | `(tactic| walk_at "my take") => `(tactic| (case' ret => intro z9 t9 x9 y9 tx9 ty9 n9 h9 tk9 F9 N9 hz9 hz9' hx9 hy9 hy9'; walk_at "my fold"))
local macro_rules | `(tactic| walk_at "call ref") => `(tactic| (k_here; (with_reducible apply at_ref 293; k_dflt (apply tellU_take (t_take _ _ _ _ _ _ _ _ _ _ _ _ _ _ _); walk_at "my uU"; walk_at "my take"))))
-- END LOCAL
theorem item_any {prog : Program} {w : World} {A : Around} {E : Value → Shared → Prop} {s : Shared} {value slice : PySem.Expr} {l : Addr} {vs : List Value} {k : Int} {u : Tok} {Q : Value → Shared → Prop}
    (hl : s.heap.IsList l vs.toArray) (h0 : 0 ≤ k) (h1 : k < (vs.length : Int)) (hsz : vs.length < 1000) (h : ∀ v (j : Nat), vs[j]? = some v → Q v s)
    (hs : subscripted slice false (.ref l) (.int k u) = operate [.ref l, .int k u] (getItem (.ref l) (.int k u)) := by with_unfolding_all rfl) :
    wpAny (model prog w) A (subscriptTail value slice (.ref l) (.int k u)) Q E s := by
  have hk : k.toNat < vs.length := by omega
  exact item_litK hl h0 (by omega) (List.getElem?_eq_getElem hk) (h _ _ (List.getElem?_eq_getElem hk)) hs
set_option maxHeartbeats 4000000 in
theorem t_one (w : World) (mean : ExcName → Option Value) (mg mb : Str → Option Value) (ps pl : Addr) (x y : Int) (tx ty : Tok) (n nl : Nat) (vs : List Value) (hx : 0 ≤ x) (hy : 0 ≤ y ∧ y < 2147483647) (hv : 0 < vs.length ∧ vs.length < 100) :
    TellU w mean mg mb 6 300 [.ref ps, .ref pl] ps (srcO x y tx ty n) [(pl, listOf vs.toArray nl)] (fun r tl o' => ∃ (k : Nat) (x' y' : Int) (tx' ty' : Tok) (n' : Nat), vs[k]? = some r ∧ tl = [] ∧ o' = srcO x' y' tx' ty' n' ∧ 0 ≤ x' ∧ 0 ≤ y' ∧ y' < 2147483647) := by
  intro dp un gd cn cs a ccd cl outer A₀ base h₀ L m news nw s Q E B F X N T hk hU hR hd hu hret
  obtain ⟨oth, ho1, ho2, ho3, ho4⟩ := upd_open hU
  have hl := hR _ (List.Mem.head _)
  have ml := ho3 _ hl.1 hl.2
  replace N := cb_drop N ho1
  refine wpAny_call ?_
  k_with_none
  k_dflt walk_at "my enter"
  k_steps
  refine len_list (items := vs.toArray) (News.isList (by k_asm) (List.Mem.tail _ ml)) (by simp only [List.size_toArray]; omega) ?_
  simp only [List.size_toArray]
  k_steps
  k_dflt refine item_any (vs := vs) (News.isList (by k_asm) (List.Mem.tail _ ml)) (by assumption) (by assumption) (by omega) (fun v j hj => ?_)
  k_steps

  exact hret _ [] _ _ _ (by k_asm) (cb_drop (by k_asm) (ho4 _)) ktn_ord0 ⟨_, _, _, _, _, _, hj, rfl, rfl, by assumption, by assumption, by assumption⟩
theorem add_to {prog : Program} {w : World} {A : Around} {E : Value → Shared → Prop} {s : Shared} {x y c : Str} {t u : Tok} {Q : Value → Shared → Prop} (hx : x ++ y = c) (h1 : x.length < 60) (h2 : y.length < 60) (h : ∀ t' tk, Q (.str c t') { s with toks := tk }) : wpAny (model prog w) A (binaryOp .Add (.str x t) (.str y u)) Q E s :=
  add_str (fun t' tk => hx ▸ h t' tk) (Nat.le_trans (Nat.le_of_lt (Nat.add_lt_add h1 h2)) (by decide))
theorem tellU_one {w : World} {mean : ExcName → Option Value} {mg mb : Str → Option Value} {n : Nat} {f : Addr} {vs : List Value} {ps : Addr} {o : Obj} {pre : List (Addr × Obj)} {us : List Value} (C : TellU w mean mg mb n f vs ps o pre (fun r tl o' => ∃ (k : Nat) (x' y' : Int) (tx' ty' : Tok) (n' : Nat), us[k]? = some r ∧ tl = [] ∧ o' = srcO x' y' tx' ty' n' ∧ 0 ≤ x' ∧ 0 ≤ y' ∧ y' < 2147483647))
    {dp un : Nat} {gd : Option (List Code)} {cn : Str} {cs : Scope} {a : Addr} {ccd : Value} {cl : List (Str × Addr)} {outer : List Env} {A₀ : Around} {base h₀ : Heap} {L : Addr} {m : Str → Option Value} {news : List (Addr × Obj)} {nw : Obj → List (Addr × Obj)} {s : Shared}
    {Q E : Value → Shared → Prop} (B : Below A₀ base outer h₀) (F : Fr h₀ L s.heap m) (X : (kv.heap_1 w.params).In h₀) (N : News h₀ L s.heap news) (T : Top VW LO mean mg mb h₀) (hk : cs.kind = .function) (hU : ∀ o', Upd ps o o' news (nw o')) (hp : ∀ q ∈ pre, q ∈ news ∧ q.1 ≠ ps) (hd : dp + n < recursionLimit) (hu : un + 8 * n < cLine)
    (ret : ∀ r (k : Nat) x' y' tx' ty' n' h' tk', Fr h₀ L h' m → News h₀ L h' (nw (srcO x' y' tx' ty' n')) → us[k]? = some r → 0 ≤ x' → 0 ≤ y' → y' < 2147483647 → Q r { s with heap := h', toks := tk' }) : wpAny (model PR w) (ktrTop dp un gd cn cs L a ccd cl outer) (call (.ref f) vs) Q E s :=
  tellU_use C B F X N T hk hU hp hd hu fun r tl o' h' tk' F' N' _ ho => by
    obtain ⟨k, x', y', tx', ty', n', h1, e', e'', h3, h4, h5⟩ := ho
    subst e'
    subst e''
    exact ret r k x' y' tx' ty' n' h' tk' F' N' h1 h3 h4 h5
theorem tellU_num {w : World} {mean : ExcName → Option Value} {mg mb : Str → Option Value} {n : Nat} {f : Addr} {vs : List Value} {ps : Addr} {o : Obj} {pre : List (Addr × Obj)} {V : Tok → Value} {O : Tok → Obj} (C : TellU w mean mg mb n f vs ps o pre (fun r tl o' => tl = [] ∧ (∃ t, r = V t) ∧ ∃ k, o' = O k))
    {dp un : Nat} {gd : Option (List Code)} {cn : Str} {cs : Scope} {a : Addr} {ccd : Value} {cl : List (Str × Addr)} {outer : List Env} {A₀ : Around} {base h₀ : Heap} {L : Addr} {m : Str → Option Value} {news : List (Addr × Obj)} {nw : Obj → List (Addr × Obj)} {s : Shared}
    {Q E : Value → Shared → Prop} (B : Below A₀ base outer h₀) (F : Fr h₀ L s.heap m) (X : (kv.heap_1 w.params).In h₀) (N : News h₀ L s.heap news) (T : Top VW LO mean mg mb h₀) (hk : cs.kind = .function) (hU : ∀ o', Upd ps o o' news (nw o')) (hp : ∀ q ∈ pre, q ∈ news ∧ q.1 ≠ ps) (hd : dp + n < recursionLimit) (hu : un + 8 * n < cLine)
    (ret : ∀ t k h' tk', Fr h₀ L h' m → News h₀ L h' (nw (O k)) → Q (V t) { s with heap := h', toks := tk' }) : wpAny (model PR w) (ktrTop dp un gd cn cs L a ccd cl outer) (call (.ref f) vs) Q E s :=
  tellU_use C B F X N T hk hU hp hd hu fun r tl o' h' tk' F' N' _ ho => by
    obtain ⟨e, ⟨t, e'⟩, k, e''⟩ := ho
    subst e
    subst e'
    subst e''
    exact ret t k h' tk' F' N'
-- LOCAL
local macro_rules | `(tactic| walk_at "my one") => `(tactic| (case' ret => intro r9 k9 x9 y9 tx9 ty9 n9 h9 tk9 F9 N9 hv9 hx9 hy9 hy9'; walk_at "my fold"))
local macro_rules | `(tactic| walk_at "call ref") => `(tactic| (k_here; (with_reducible apply at_ref 300; k_dflt (apply tellU_one (t_one _ _ _ _ _ _ _ _ _ _ _ _ _ _ _ _); walk_at "my uU"; walk_at "my one"))))
local macro_rules | `(tactic| walk_at "binaryOp Add str str") => `(tactic| (k_here; (refine' add_to ?kq1 ?kq2 ?kq3 ?_; (case kq1 => with_reducible assumption); (case kq2 | kq3 => first | with_reducible assumption | decide +kernel); intro t' tk'; (try dsimp only); (try k_fold))))
-- END LOCAL
theorem reset_X0 : True := by
  w_top off
  trivial
/-- what no step of a raise turns in an object -/
structure Same (o o' : Obj) : Prop where
  cls : o'.cls = o.cls
  dict : o'.dict = o.dict
  live : o.isFreed = false → o'.isFreed = false
  flds : ∀ vs, o.data = .fields vs → ∃ vs', o'.data = .fields vs' ∧ vs'[2]? = vs[2]?
theorem Same.refl (o : Obj) : Same o o := ⟨rfl, rfl, id, fun vs h => ⟨vs, h, rfl⟩⟩
theorem Same.trans {o o' o'' : Obj} (a : Same o o') (b : Same o' o'') : Same o o'' :=
  ⟨b.cls.trans a.cls, b.dict.trans a.dict, fun h => b.live (a.live h), fun vs h => by
    obtain ⟨vs', h1, e1⟩ := a.flds vs h
    obtain ⟨vs'', h2, e2⟩ := b.flds vs' h1
    exact ⟨vs'', h2, e2.trans e1⟩⟩
theorem same_fields {i : Nat} {x : Value} (hi : i ≠ 2) (o : Obj) : Same o (Obj.mapFields (·.setIfInBounds i x) o) := by
  obtain ⟨c, d, dt, sl⟩ := o
  cases dt with
  | fields vs => exact ⟨rfl, rfl, fun _ => rfl, fun ws h => by cases h; exact ⟨_, rfl, Array.getElem?_setIfInBounds_ne hi⟩⟩
  | _ => exact Same.refl _
theorem same_slots (o : Obj) (sl : Array (Option Value)) : Same o { o with slots := sl } :=
  ⟨rfl, rfl, fun h => by rw [kts_isFreed]; exact h, fun vs h => ⟨vs, h, rfl⟩⟩
def Kept (h h' : Heap) : Prop := ∀ b o, h.get? b = some o → ∃ o', h'.get? b = some o' ∧ Same o o'
theorem Kept.refl (h : Heap) : Kept h h := fun _ o e => ⟨o, e, Same.refl o⟩
theorem Kept.trans {h h' h'' : Heap} (a : Kept h h') (b : Kept h' h'') : Kept h h'' := fun x o e => by
  obtain ⟨o', e', s'⟩ := a x o e
  obtain ⟨o'', e'', s''⟩ := b x o' e'
  exact ⟨o'', e'', s'.trans s''⟩
theorem Kept.push (h : Heap) (o : Obj) : Kept h (h.push o) := fun _ o' e => ⟨o', Heap.get?_push_of_some _ e, Same.refl o'⟩
theorem Kept.update {h : Heap} {a : Addr} {f : Obj → Obj} (hf : ∀ o, Same o (f o)) : Kept h (h.update a f) := fun b o e => by
  by_cases q : a = b
  · subst q
    exact ⟨f o, Heap.get?_update_self f e ((hf o).live (Heap.get?_some_iff.mp e).2), hf o⟩
  · exact ⟨o, (Heap.get?_update_other h f q).trans e, Same.refl o⟩
theorem Kept.of_keeps {h h' : Heap} (k : ∀ b o, h.get? b = some o → h'.get? b = some o) : Kept h h' := fun b o e => ⟨o, k b o e, Same.refl o⟩

/-- a tree all of whose stores keep what Same says -/
def Kp {α : Type} : Sem α → Prop
  | .rule _ k => Kp (k ())
  | .at _ k => Kp (k ())
  | .point _ k => Kp (k ())
  | .load _ _ k => ∀ o, Kp (k o)
  | .loadIfAlive _ k => ∀ o, Kp (k o)
  | .update _ _ f k => (∀ o, Same o (f o)) ∧ Kp (k ())
  | .alloc _ k => ∀ a, Kp (k a)
  | .fresh k => ∀ t, Kp (k t)
  | .ask k => ∀ x, Kp (k x)
  | .handled _ k => ∀ v, Kp (k v)
  | .stack k => ∀ st, Kp (k st)
  | .choose .. => False
  | .os .. => False
  | .call .. => False
  | .genState .. => False
  | .newGen .. => False
  | .resume .. => False
  | .thread .. => False
  | .pure _ => True
  | .raise _ => True
  | .unsupported _ => True
  | .finish _ => True
  | .register .. => True
  | .yield .. => True
  | .fork .. => True
  | .await .. => True
theorem kp_bind {α β : Type} {f : α → Sem β} (hf : ∀ a, Kp (f a)) (m : Sem α) : Kp m → Kp (m >>= f) := by
  induction m with
  | rule _ k ih => exact fun h => ih () h
  | «at» _ k ih => exact fun h => ih () h
  | point _ k ih => exact fun h => ih () h
  | load _ _ k ih => exact fun h o => ih o (h o)
  | loadIfAlive _ k ih => exact fun h o => ih o (h o)
  | update _ _ _ k ih => exact fun h => ⟨h.1, ih () h.2⟩
  | alloc _ k ih => exact fun h a => ih a (h a)
  | fresh k ih => exact fun h t => ih t (h t)
  | ask k ih => exact fun h x => ih x (h x)
  | handled _ k ih => exact fun h v => ih v (h v)
  | stack k ih => exact fun h st => ih st (h st)
  | pure a => exact fun _ => hf a
  | raise => exact fun _ => trivial
  | unsupported => exact fun _ => trivial
  | finish => exact fun _ => trivial
  | register => exact fun _ => trivial
  | yield => exact fun _ => trivial
  | fork => exact fun _ => trivial
  | await => exact fun _ => trivial
  | _ => exact fun h => h.elim
theorem wp_kept {α : Type} {M : Model} {Γ : PySem.Ctx} {h₀ : Heap} {Q : α → Pos → Shared → Prop} {E : Value → Pos → Shared → Prop} (t : Sem α) : Kp t → ∀ (p : Pos) (s : Shared), Kept h₀ s.heap → Sem.wp M Γ t Q E p s →
    Sem.wp M Γ t (fun a p' s' => Q a p' s' ∧ Kept h₀ s'.heap) (fun e p' s' => E e p' s' ∧ Kept h₀ s'.heap) p s := by
  induction t with
  | rule _ k ih => intro h p s hk w; rw [Sem.wp] at w ⊢; exact ih () h p s hk w
  | «at» q k ih => intro h p s hk w; rw [Sem.wp] at w ⊢; exact ih () h q s hk w
  | point _ k ih => intro h p s hk w; rw [Sem.wp] at w ⊢; exact ih () h p s hk w
  | load a _ k ih =>
    intro h p s hk w
    rw [Sem.wp] at w ⊢
    obtain ⟨o, ho, w⟩ := w
    exact ⟨o, ho, ih o (h o) p s hk w⟩
  | loadIfAlive a k ih => intro h p s hk w; rw [Sem.wp] at w ⊢; exact ih _ (h _) p s hk w
  | update a _ f k ih =>
    intro h p s hk w
    rw [Sem.wp] at w ⊢
    exact ⟨w.1, ih () h.2 p _ (hk.trans (Kept.update h.1)) w.2⟩
  | alloc o k ih => intro h p s hk w; rw [Sem.wp] at w ⊢; exact ih _ (h _) p _ (hk.trans (Kept.push _ _)) w
  | fresh k ih => intro h p s hk w; rw [Sem.wp] at w ⊢; exact ih _ (h _) p _ hk w
  | ask k ih => intro h p s hk w; rw [Sem.wp] at w ⊢; exact ih _ (h _) p s hk w
  | handled _ k ih => intro h p s hk w; rw [Sem.wp] at w ⊢; exact ih _ (h _) p s hk w
  | stack k ih => intro h p s hk w; rw [Sem.wp] at w ⊢; exact ih _ (h _) p s hk w
  | pure a => intro _ p s hk w; rw [Sem.wp] at w ⊢; exact ⟨w, hk⟩
  | raise e => intro _ p s hk w; rw [Sem.wp] at w ⊢; exact ⟨w, hk⟩
  | unsupported => intro _ p s hk w; rw [Sem.wp] at w; exact w.elim
  | finish => intro _ p s hk w; rw [Sem.wp] at w; exact w.elim
  | register => intro _ p s hk w; rw [Sem.wp] at w; exact w.elim
  | yield => intro _ p s hk w; rw [Sem.wp] at w; exact w.elim
  | fork => intro _ p s hk w; rw [Sem.wp] at w; exact w.elim
  | await => intro _ p s hk w; rw [Sem.wp] at w; exact w.elim
  | _ => intro h; exact h.elim
theorem wpAny_kept {α : Type} {M : Model} {A : Around} {t : Sem α} {Q : α → Shared → Prop} {E : Value → Shared → Prop} {s : Shared} (hk : Kp t) (w : wpAny M A t Q E s) :
    wpAny M A t (fun a s' => Q a s' ∧ Kept s.heap s'.heap) (fun e s' => E e s' ∧ Kept s.heap s'.heap) s :=
  fun Γ p hΓ => wp_kept t hk p s (Kept.refl _) (w Γ p hΓ)
theorem kp_field (v : Value) (i : Nat) : Kp (field v i) := by
  unfold field fieldsOf
  refine kp_bind (fun vs => ?_) _ ?_
  · split <;> trivial
  · split
    · intro o; show Kp (match o.data with | .fields vs => _ | _ => _); split <;> trivial
    · trivial
theorem kp_setField (v : Value) {i : Nat} (hi : i ≠ 2) (x : Value) : Kp (setField v i x) := by
  unfold setField
  split
  · unfold updateField
    intro o
    show Kp (match o.data with | .fields vs => _ | _ => _)
    split
    · split
      · exact ⟨fun o => same_fields hi o, trivial⟩
      · trivial
    · trivial
  · trivial
theorem kp_setFlight (e : Value) (f : Option Addr) : Kp (setFlight e f) := by
  unfold setFlight
  refine kp_bind (fun tb => ?_) _ (kp_field e 1)
  split
  · exact kp_setField _ (by decide) _
  · trivial
theorem kp_newFields (ty : String) (vs : List Value) : Kp (newFields ty vs) := by
  unfold newFields newObj newObjAsIs
  dsimp only
  split
  · trivial
  · intro a; trivial
theorem kp_ready : ∀ l : List Env, Kp (readyFrames l)
  | [] => trivial
  | env :: outer => by
    unfold readyFrames
    split
    · rename_i f _
      intro o
      show Kp (if _ then _ else _)
      split
      · trivial
      · refine kp_bind (fun b => ?_) _ ?_
        · refine kp_bind (fun v => ?_) _ ?_
          · exact ⟨fun o => same_slots o _, kp_ready outer⟩
          · unfold keptBack
            split
            · split
              · trivial
              · intro st; trivial
            · trivial
        · unfold behindIsImport
          split
          · trivial
          · split
            · trivial
            · refine kp_bind (fun _ => ?_) _ (kp_field _ _)
              trivial
    · trivial
theorem kp_frameOf (env : Env) : Kp (PySem.frameOf env) := by
  unfold PySem.frameOf
  intro st
  show Kp (frameObject _ >>= _)
  refine kp_bind (fun r => ?_) _ ?_
  · split <;> trivial
  · unfold frameObject
    split
    · trivial
    · refine kp_bind (fun _ => ?_) _ (kp_ready _)
      trivial
theorem kp_place (f : Addr) (b : Bool) : Kp (entryPlaceOf f b) := by
  unfold entryPlaceOf
  have hs : Kp stack := fun _ => trivial
  refine kp_bind (fun acts => ?_) _ hs
  split <;> trivial
theorem kp_note (e : Value) (env : Env) : Kp (noteFrame e env) := by
  unfold noteFrame
  split
  · rename_i f _
    refine kp_bind (fun head => ?_) _ (kp_field e 1)
    have last : Kp (do setField e 1 (← EntryCells.newEntry head (← PySem.frameOf env) .none (rawInt f) .none (← entryPlaceOf f (head != .none)))) := by
      refine kp_bind (fun fr => ?_) _ (kp_frameOf env)
      refine kp_bind (fun pl => ?_) _ (kp_place f _)
      refine kp_bind (fun b => ?_) _ ?_
      · exact kp_setField _ (by decide) _
      · exact kp_newFields _ _
    split
    · refine kp_bind (fun x => ?_) _ (kp_field head 3)
      split
      · trivial
      · exact kp_bind (fun _ => last) _ (kp_setField _ (by decide) _)
    · exact last
  · trivial
theorem kp_leaving (env : Env) (e : Value) : Kp (leaving env e) := by
  unfold leaving
  exact kp_bind (fun _ => kp_setFlight _ _) _ (kp_note _ _)
theorem reset_X1 : True := by
  w_top off
  trivial
section
variable {M : Model} {A : Around} {E : Value → Shared → Prop} {h : Heap} {g : Array GenState} {d : Drawn} {t : Nat} {os : OsState}
variable {nm q : Str} {C N : Addr} {bs bm : List Value} {hdct : Bool} {sn : List Str} {sub : List Value} {ab : Bool} {col : Option Bool} {dd : Option Addr} {k0 k1 k2 k3 k5 : Option Value}
theorem exc_check {rest : List Value} {Q : Unit → Shared → Prop} (hC : h.get? C = some (excClassObj nm q C N bs bm hdct sn sub ab col dd k0 k1 k2 k3 k5 "Exception.__new__"))
    (hB : (Value.ref C :: bm).contains (.type "Exception") = true) (hq : Q () ⟨h, g, d, t, os⟩) : wpAny M A (checkBuiltinCall "Exception.__new__" ⟨.ref C :: rest, []⟩) Q E ⟨h, g, d, t, os⟩ := by
  have F := PySem.F.excBase_Exception
  have hs := F.noStar
  simp only [checkBuiltinCall, F.newKind, F.newSplit, F.newRow]
  repeat (first
    | (refine wpAny_isSubtype_exc hC ?_; rw [hB])
    | refine wpAny_loadPart_at hC ?_
    | refine wpAny_madeBy_exc hC ?_
    | refine wpAny_staticBase_exc hC ?_
    | simp only [bne_self_eq_false, Bool.false_eq_true, if_false]
    | wp_step)
  exact hq
end
section
variable {prog : Program} {w : World} {A : Around} {R : Result → Shared → Prop} {h : Heap} {g : Array GenState} {d : Drawn} {t : Nat} {os : OsState}
variable {nm q : Str} {C N : Addr} {bs bm : List Value} {hdct : Bool} {sn : List Str} {sub : List Value} {ab : Bool} {col : Option Bool} {dd : Option Addr} {k0 k1 k2 k3 k5 : Option Value}
abbrev excO (C t : Addr) : Obj := { cls := .ref C, data := .fields #[.ref t, .none, .none, .none, .bool false, .none] }
theorem exc_new {rest : List Value} (hC : h.get? C = some (excClassObj nm q C N bs bm hdct sn sub ab col dd k0 k1 k2 k3 k5 "Exception.__new__"))
    (hB : (Value.ref C :: bm).contains (.type "Exception") = true) (hA : (Value.ref C :: bm).contains (.type "AttributeError") = false) (hN : (Value.ref C :: bm).contains (.type "NameError") = false)
    (hrest : rest.length ≤ sizeLine) (hq : R (.ok (.ret (.ref (h.objs.size + 1)))) ⟨(h.push (tupO rest)).push (excO C h.objs.size), g, d, t, os⟩) :
    codeAny (model prog w) A (.builtin "Exception.__new__" ⟨.ref C :: rest, []⟩) R ⟨h, g, d, t, os⟩ := by
  have F := PySem.F.excBase_Exception
  have he := F.ends
  refine codeAny_builtinAt F.entry ?_
  unfold Builtin.«BaseException.__new__»
  refine PySem.wpAt_bind ?_
  show PySem.wpAt _ _ _ (stack >>= _) _ _ _
  refine PySem.wpAt_bind (PySem.wpAt_stack fun p below => PySem.wpAt_of_wpAny ?_)
  wp_walk
  refine PySem.wpAt_of_wpAny ?_
  rw [F.owner]
  repeat (first
    | (with_reducible refine wpAny_isSubtype_exc hC ?_; first | rw [hB] | rw [hA] | rw [hN])
    | with_reducible refine wpAny_madeHere_exc F.canon hC ?_
    | with_reducible refine wpAny_loadPart_at hC ?_
    | wp_step)
  show R _ _
  rw [Heap.size_push]
  exact hq
end
theorem reset_X2 : True := by
  w_top off
  trivial
section
variable {prog : Program} {w : World} {A : Around} {E : Value → Shared → Prop} {h : Heap} {g : Array GenState} {d : Drawn} {t : Nat} {os : OsState} {K : Frag}
variable {nm q : Str} {C N : Addr} {bs bm : List Value} {hdct : Bool} {sn : List Str} {sub : List Value} {ab : Bool} {col : Option Bool} {dd : Option Addr} {k0 k1 k2 k3 k5 : Option Value}
theorem exc_make {rest : List Value} {fI : Addr} {Q : PySem.Fin → Shared → Prop} (hC : h.get? C = some (excClassObj nm q C N bs bm hdct sn sub ab col dd k0 k1 k2 k3 k5 "Exception.__new__"))
    (hB : (Value.ref C :: bm).contains (.type "Exception") = true) (hA : (Value.ref C :: bm).contains (.type "AttributeError") = false) (hN : (Value.ref C :: bm).contains (.type "NameError") = false)
    (X : K.In h) (hi : findIn K (.ref C) "__init__" = some (some (.ref fI))) (hf : typeIn K (.ref fI) = some (.type "function")) (hrest : rest.length ≤ sizeLine)
    (hq : wpAny (model prog w) A (call (.ref fI) (.ref (h.objs.size + 1) :: rest)) (fun r s' => r = .none ∧ Q (.done (.ret (.ref (h.objs.size + 1)))) s') E ⟨(h.push (tupO rest)).push (excO C h.objs.size), g, d, t, os⟩) :
    wpAny (model prog w) A (Builtin.«type.__call__» ⟨.ref C :: rest, []⟩) Q E ⟨h, g, d, t, os⟩ := by
  repeat (first | with_reducible refine wpAny_loadPart_at hC ?_ | with_reducible refine wpAny_madeBy_exc hC ?_ | wp_step)
  refine codeAny_call_builtin_code (Code.quiet_builtin _ PySem.F.excBase_Exception.quiet) (exc_check hC hB ?_)
  refine exc_new hC hB hA hN hrest ?_
  show wpAny _ _ _ _ _ _
  have keep : ∀ b o, h.get? b = some o → ((h.push (tupO rest)).push (excO C h.objs.size)).get? b = some o := fun b o e => Heap.get?_push_of_some _ (Heap.get?_push_of_some _ e)
  have hC₁ := keep _ _ hC
  have X₁ := X.keeps keep
  have hget : ((h.push (tupO rest)).push (excO C h.objs.size)).get? (h.objs.size + 1) = some (excO C h.objs.size) := by heap_get
  have hcC : (Value.ref C :: bm).contains (.ref C) = true := by simp
  unfold isInstance
  repeat (first | with_reducible refine wpAny_loadPart_at hget ?_ | (with_reducible refine wpAny_isSubtype_exc hC₁ ?_; rw [hcC]) | wp_step)
  show wpAny _ _ (typeLookup (.ref C) _) _ _ _
  refine (looks_findIn X₁ hi).here ?_
  refine wpAny_holding (wpAny_bind ((bind_fn X₁ _ hf).here ?_))
  refine wpAny_bind (wpAny_mono hq (fun r s' hr => ?_) fun _ _ x => x)
  obtain ⟨rfl, hQ⟩ := hr
  wp_walk
  exact hQ
theorem exc_call {rest : List Value} {fI : Addr} {Q : Value → Shared → Prop} (hC : h.get? C = some (excClassObj nm q C N bs bm hdct sn sub ab col dd k0 k1 k2 k3 k5 "Exception.__new__"))
    (hB : (Value.ref C :: bm).contains (.type "Exception") = true) (hA : (Value.ref C :: bm).contains (.type "AttributeError") = false) (hN : (Value.ref C :: bm).contains (.type "NameError") = false)
    (X : K.In h) (hi : findIn K (.ref C) "__init__" = some (some (.ref fI))) (hf : typeIn K (.ref fI) = some (.type "function")) (hrest : rest.length ≤ sizeLine)
    (hq : wpAny (model prog w) (A.under (.builtin "type.__call__" ⟨.ref C :: rest, []⟩)) (call (.ref fI) (.ref (h.objs.size + 1) :: rest)) (fun r s' => r = .none ∧ Q (.ref (h.objs.size + 1)) s') E ⟨(h.push (tupO rest)).push (excO C h.objs.size), g, d, t, os⟩) :
    wpAny (model prog w) A (call (.ref C) rest) Q E ⟨h, g, d, t, os⟩ := by
  have f1 := tc_lookup
  have f2 := tc_bind (.ref C)
  have hT : (⟨h, g, d, t, os⟩ : Shared).TypeIs (.ref C) "type" := ⟨_, hC, rfl⟩
  refine wpAny_call (codeAny_of_tree ?_)
  show wpAny _ _ (callAny (.ref C) _) _ _ _
  repeat (any_goals (first | assumption | with_reducible refine wpAny_loadPart_at hC ?_ | wp_step))
  refine ⟨rfl, ?_⟩
  exact codeAny_call_builtin_at (Code.quiet_builtin _ (by decide +kernel)) entry_typeCall (wpAny_check_type_call_sub hC (exc_make hC hB hA hN X hi hf hrest hq))
end
theorem reset_X3 : True := by
  w_top off
  trivial
section
variable {prog : Program} {w : World} {A : Around} {E : Value → Shared → Prop} {s : Shared} {K : Frag} {x C B L : Addr} {h₀ : Heap} {m : Str → Option Value} {name : Str} {v : Value} {cd : ClassData} {t : Addr} {rest : List (Addr × Obj)}
abbrev excD (C t dx : Addr) : Obj := { cls := .ref C, dict := some dx, data := .fields #[.ref t, .none, .none, .none, .bool false, .none] }
abbrev msgO (w : World) (name : Str) (tk : Tok) (v : Value) : Obj := dictOf [⟨PyData.keyHash w.params name, .str name tk, v⟩] 1
theorem exc_put {tk : Tok} {R : Result → Shared → Prop} (F : Fr h₀ L s.heap m) (X₀ : K.In h₀) (N : News h₀ L s.heap ((x, excO C t) :: rest)) (hne : ∀ p ∈ rest, p.1 ≠ x)
    (hc : clsIn K C = some cd) (hm : cd.mro = [.ref C, .ref B, .type "Exception", .type "BaseException", .type "object"]) (hd : cd.hasDict = true) (ht : takerIn K C name = some none)
    (h : ∀ dx h', Fr h₀ L h' m → News h₀ L h' ((dx, msgO w name s.toks v) :: (x, excD C t dx) :: rest) → (∀ p ∈ (x, excO C t) :: rest, p.1 < dx) → R (.ok (.ret .none)) { s with heap := h', toks := s.toks + 1 }) :
    codeAny (model prog w) A (.call (.builtin "object.__setattr__") ⟨[.ref x, .str name tk, v], []⟩) R s := by
  have X := X₀.keeps F.keep
  have SF := PySem.F.store_object
  have hx := (N _ (.head _)).1
  have I : InstAt s.heap x (excO C t) C none := ⟨hx, rfl, rfl, trivial⟩
  have hmr : Looks (model prog w) s.heap (mroOf (.ref C)) cd.mro := (looks_clsIn X hc).andThen .now
  have sub : Looks (model prog w) s.heap (isInstance (.ref x) (.type "object")) true := I.type.andThen (looks_mroIn X (by unfold mroIn; rw [hc, Option.bind_some, hm]; rfl))
  obtain ⟨attr, ha, hr⟩ := Option.bind_eq_some_iff.mp ht
  have L3 : Looks (model prog w) s.heap (Builtin.ObjectAttr.storeTaker? attr) none := by
    cases attr with
    | none => exact .now
    | some a =>
      obtain ⟨b, hb, e⟩ := Option.map_eq_some_iff.mp hr
      refine (looks_takesIn X hb).andThen ?_
      cases b with
      | true => cases e
      | false => exact .now
  refine codeAny_call_builtin SF.slot.plain SF.entry (@check_slot (model prog w) _ _ s "object.__setattr__" "object" "__setattr__" (.ref x) [.str name tk, v] [] _ SF.kind SF.split sub (SF.args (.ref x) (.str name tk) v) ?_)
  rw [osa_eq, refuse_eq]
  refine wpAny_bind (wpAny_bind (I.type.here (wpAny_bind (hmr.here ?_))))
  rw [hm, refuseLoop_ref, refuseLoop_ref, PySem.F.store_Exception.passes]
  refine wpAny_pure (wpAny_bind (I.type.here (wpAny_bind ((looks_findIn X ha).here (wpAny_bind (L3.here ?_))))))
  show wpAny _ _ (Builtin.ObjectAttr.storeInOwnDict _ _ _ _ _ _) _ _ _
  refine wpAny_bind (wpAny_pure (wpAny_bind (wpAny_bind (wpAny_loadPart hx (wpAny_bind ((looks_clsIn X hc).here ?_))))))
  rw [hd]
  show wpAny _ _ (alloc emptyDict >>= fun dx => (update x fun o => { cls := o.cls, dict := some dx, data := o.data, slots := o.slots }) >>= fun _ => (pure (some dx) : Sem (Option Addr))) _ _ _
  have N1 := N.push F emptyDict
  have F1 := F.push (h := s.heap) emptyDict
  have hlt : ∀ p ∈ (x, excO C t) :: rest, p.1 < s.heap.objs.size := fun p hp => Heap.lt_size (N p hp).1
  refine wpAny_bind (wpAny_alloc ?_)
  obtain ⟨F2, N2⟩ := news_upd (pre := [(s.heap.objs.size, emptyDict)]) (o' := excD C t s.heap.objs.size) (f := fun o => { cls := o.cls, dict := some s.heap.objs.size, data := o.data, slots := o.slots }) F1 N1
    (List.forall_mem_cons.mpr ⟨Nat.ne_of_gt (hlt _ (.head _)), List.forall_mem_nil _⟩) hne rfl rfl
  obtain ⟨F3, N3⟩ := news_upd (pre := []) (o' := msgO w name s.toks v) (f := Obj.putName name (PyData.keyHash w.params name) (.str name s.toks) v) F2 N2
    (List.forall_mem_nil _) (fun p hp => by
      rcases List.mem_cons.mp hp with e | e
      · rw [e]; exact Nat.ne_of_lt (hlt (x, excO C t) (.head _))
      · exact Nat.ne_of_lt (hlt _ (.tail _ e))) (by rw [putName_dict]; rfl) rfl
  refine wpAny_bind (wpAny_update (N1 _ (.tail _ (.head _))).1 (wpAny_pure ?_))
  show wpAny _ _ (Builtin.ObjectAttr.storeInDict _ _ _ _) _ _ _
  refine wpAny_bind (wpAny_pure (wpAny_bind ?_))
  unfold nsSet
  refine wpAny_bind (wpAny_bind (wpAny_askSetting (wpAny_pure (wpAny_bind (wpAny_mkText (wpAny_bind (wpAny_loadPart (N2 _ (.head _)).1 ?_)))))))
  dsimp only
  refine wpAny_updatePart (N2 _ (.head _)).1 ?_
  refine wpAny_bind (wpAny_lookBehind (N3 _ (.head _)).1 (pastItsLine_dict (by rw [sizeLine_eq]; show 1 ≤ 16777216 + 1; omega)) ?_)
  exact wpAny_pure (h _ _ F3 N3 hlt)
theorem exc_set {Q : Unit → Shared → Prop} (F : Fr h₀ L s.heap m) (X₀ : K.In h₀) (N : News h₀ L s.heap ((x, excO C t) :: rest)) (hne : ∀ p ∈ rest, p.1 ≠ x)
    (hs : findIn K (.ref C) "__setattr__" = some (some (.builtin "object.__setattr__")))
    (hc : clsIn K C = some cd) (hm : cd.mro = [.ref C, .ref B, .type "Exception", .type "BaseException", .type "object"]) (hd : cd.hasDict = true) (ht : takerIn K C name = some none)
    (h : ∀ dx h', Fr h₀ L h' m → News h₀ L h' ((dx, msgO w name (s.toks + 1) v) :: (x, excD C t dx) :: rest) → (∀ p ∈ (x, excO C t) :: rest, p.1 < dx) → Q () { s with heap := h', toks := s.toks + 2 }) :
    wpAny (model prog w) A (setAttr (.ref x) name v) Q E s :=
  set_plain (od := none) (X₀.keeps F.keep) (⟨(N _ (.head _)).1, rfl, rfl, trivial⟩ : InstAt s.heap x (excO C t) C none) hs (exc_put (s := { s with toks := s.toks + 1 }) F X₀ N hne hc hm hd ht h)
end
theorem reset_X4 : True := by
  w_top off
  trivial
theorem allLt_trans {a b : Addr} : ∀ {l : List (Addr × Obj)}, AllLt a l → @LT.lt Nat _ a b → AllLt b l
  | [], _, _ => trivial
  | _ :: _, h, k => ⟨Nat.lt_trans h.1 k, allLt_trans h.2 k⟩
theorem call_exc {prog : Program} {w : World} {A : Around} {E : Value → Shared → Prop} {s : Shared} {K : Frag} {L : Addr} {h₀ : Heap} {m : Str → Option Value} {news : List (Addr × Obj)}
    {nm q : Str} {C N' : Addr} {bs bm : List Value} {hdct : Bool} {sn : List Str} {sub : List Value} {ab : Bool} {col : Option Bool} {dd : Option Addr} {k0 k1 k2 k3 k5 : Option Value}
    {rest : List Value} {fI : Addr} {Q : Value → Shared → Prop} (F : Fr h₀ L s.heap m) (X₀ : K.In h₀) (N : News h₀ L s.heap news)
    (hC : K.lookup C = some (excClassObj nm q C N' bs bm hdct sn sub ab col dd k0 k1 k2 k3 k5 "Exception.__new__"))
    (hB : (Value.ref C :: bm).contains (.type "Exception") = true) (hA : (Value.ref C :: bm).contains (.type "AttributeError") = false) (hN : (Value.ref C :: bm).contains (.type "NameError") = false)
    (hi : findIn K (.ref C) "__init__" = some (some (.ref fI))) (hf : typeIn K (.ref fI) = some (.type "function")) (hrest : rest.length ≤ sizeLine)
    (h : ∀ e t h', Fr h₀ L h' m → News h₀ L h' ((e, excO C t) :: (t, tupO rest) :: news) → (∀ p ∈ news, p.1 < t) → t < e →
      codeAny (model prog w) (A.under (.builtin "type.__call__" ⟨.ref C :: rest, []⟩)) (.call (.ref fI) ⟨.ref e :: rest, []⟩) (InitBack e fun r s' => match r with | .ok (.ret v) => Q v s' | .ok _ => False | .error e => E e s') { s with heap := h' }) :
    wpAny (model prog w) A (call (.ref C) rest) Q E s := by
  have X := X₀.keeps F.keep
  obtain ⟨hh, g, d, t, os⟩ := s
  have N1 := N.push F (tupO rest)
  have N2 := N1.push (F.push _) (excO C hh.objs.size)
  rw [Heap.size_push] at N2
  refine exc_call (X _ _ hC) hB hA hN X hi hf hrest (wpAny_call (codeAny_mono (h _ _ _ ((F.push _).push _) N2 (fun p hp => Heap.lt_size (N p hp).1) (Nat.lt_succ_self _)) fun r s' z => ?_))
  rcases r with e | (v | _ | _ | _) <;> first | exact z | exact z.elim
-- LOCAL
local macro_rules | `(tactic| k_all) => `(tactic| exact fun p hp => Nat.ne_of_lt (Nat.lt_trans (ktn_ltOf (by walk_at "my lt") p hp) (by omega)))
local macro_rules | `(tactic| walk_at "my exc") => `(tactic| (k_dflt (refine' call_exc ?k1 ?k2 ?k3 ?hC ?hB ?hA ?hN ?hi ?hf ?hr ?_; (case k1 | k2 | k3 => k_asm); (case hC => k_is); (case hB | hA | hN => exact rfl); (case hi | hf => k_is); (case hr => exact Nat.le_of_ble_eq_true rfl); k_whole; intro e' t' h' F' N' l1 l2; (try k_lt l1); (try k_lt2 l2); (try k_sweep); k_enter)))
local macro_rules | `(tactic| walk_at "call ref") => `(tactic| (k_here; (with_reducible show wpAny _ _ (call (Value.ref 51) [_]) _ _ _); walk_at "my exc"))
local macro_rules | `(tactic| walk_at "call ref") => `(tactic| (k_here; (with_reducible show wpAny _ _ (call (Value.ref 63) [_]) _ _ _); walk_at "my exc"))
local macro_rules | `(tactic| walk_at "setAttr ref") => `(tactic| (k_here; k_dflt (refine' exc_set ?k1 ?k2 ?k3 ?k4 ?k5 ?k6 ?k7 ?k8 ?k9 ?_; (case k1 | k2 | k3 => k_asm); (case k4 => k_all); (case k5 | k6 => k_is); (case k7 | k8 => exact rfl); (case k9 => k_is); k_whole; intro d' h' F' N' l1; (try k_lt l1); (try k_sweep))))
-- END LOCAL
theorem reset_X5 : True := by
  w_top off
  trivial
abbrev excC (C t dx : Addr) (ctx : Value) : Obj := { cls := .ref C, dict := some dx, data := .fields #[.ref t, .none, ctx, .none, .bool false, .none] }
/-- an exception of an own class in flight: RaisedS, and its dict and its context -/
def RaisedX (base G : Heap) (l : List Env) (e C t : Addr) (vs : List Value) (dx : Addr) (dob : Obj) (ctx : Value) (news : List (Addr × Obj)) (h : Heap) : Prop :=
  RaisedS base G l e (.ref C) t vs ((dx, dob) :: news) h ∧ ∃ oe ws, h.get? e = some oe ∧ oe.dict = some dx ∧ oe.data = .fields ws ∧ ws[2]? = some ctx
theorem raisedX_kept {base G : Heap} {l : List Env} {e C t : Addr} {vs : List Value} {dx : Addr} {dob : Obj} {ctx : Value} {news : List (Addr × Obj)} {h h' : Heap} {oe : Obj} {ws : Array Value}
    (R : RaisedS base G l e (.ref C) t vs ((dx, dob) :: news) h') (k : Kept h h') (he : h.get? e = some oe) (hd : oe.dict = some dx) (hf : oe.data = .fields ws) (h2 : ws[2]? = some ctx) : RaisedX base G l e C t vs dx dob ctx news h' := by
  obtain ⟨o', ho', S⟩ := k e oe he
  obtain ⟨ws', hf', h2'⟩ := S.flds ws hf
  exact ⟨R, o', ws', ho', S.dict.trans hd, hf', h2'.trans h2⟩
section
variable {M : Model} {A : Around} {E : Value → Shared → Prop} {s' : Shared} {base g g₂ h : Heap} {outer : List Env} {L a e t C dx : Addr} {dob : Obj} {ctx : Value} {vs : List Value} {m : Str → Option Value} {name : Str} {scope : Scope} {cd : Value} {Q : Unit → Shared → Prop} {news : List (Addr × Obj)}
theorem leave_raiseX (K : Below A base outer g) (F : Fr g L s'.heap m) (N : News g L s'.heap ((dx, dob) :: (e, excC C t dx ctx) :: (t, tupO vs) :: news)) (hne : ∀ q ∈ (dx, dob) :: news, q.1 ≠ e ∧ q.1 ≠ t)
    (hQ : ∀ h', RaisedX base g outer e C t vs dx dob ctx news h' → g.UpToSlots h' → Q () { s' with heap := h' }) (hk : scope.kind = .function := by rfl) :
    wpAny M (A.deeper (envOf name scope L a cd)) (leaving (envOf name scope L a cd) (.ref e)) Q E s' := by
  have K' := K.push (name := name) (a := a) (cd := cd) F hk
  have Ne := N _ (.tail _ (.head _))
  have Nt := N _ (.tail _ (.tail _ (.head _)))
  have inFr : ∀ env ∈ (envOf name scope L a cd :: outer), ∀ b, env.frame = some b → b ∈ e :: t :: (envOf name scope L a cd :: outer).filterMap (·.frame) := fun env he b hb => .tail _ (.tail _ (List.mem_filterMap.mpr ⟨env, he, hb⟩))
  have base_e : base.get? e = none := fresh_of_stays K.stays Ne.2.2
  have base_t : base.get? t = none := fresh_of_stays K.stays Nt.2.2
  have off : ∀ {b o}, s'.heap.get? b = some o → b ≠ e → b ≠ t → b ∉ (envOf name scope L a cd :: outer).filterMap (·.frame) → (hideAll s'.heap (e :: t :: (envOf name scope L a cd :: outer).filterMap (·.frame))).get? b = some o := fun ho h1 h2 h3 =>
    hideAll_get _ ho fun hm => by
      rcases List.mem_cons.mp hm with z | hm
      · exact h1 z
      · rcases List.mem_cons.mp hm with z | hm
        · exact h2 z
        · exact h3 hm
  have st : base.StaysIn (hideAll s'.heap (e :: t :: (envOf name scope L a cd :: outer).filterMap (·.frame))) := fun b o q => off (K'.stays b o q) (fun z => by rw [z, base_e] at q; cases q) (fun z => by rw [z, base_t] at q; cases q) fun hm => by
    rw [(K'.frames.mem hm).1] at q; cases q
  have sg : ∀ b o, g.get? b = some o → b ∉ outer.filterMap (·.frame) → (hideAll s'.heap (e :: t :: (envOf name scope L a cd :: outer).filterMap (·.frame))).get? b = some o := fun b o q nm => off (F.keep b o q) (fun z => by have := Ne.2.2; rw [← z, q] at this; cases this) (fun z => by have := Nt.2.2; rw [← z, q] at this; cases this) fun hm => by
    rcases kts_mem hm with z | z
    · rw [z, kts_self F] at q; cases q
    · exact nm z
  have hl : ∀ q ∈ (dx, dob) :: news, (hideAll s'.heap (e :: t :: (envOf name scope L a cd :: outer).filterMap (·.frame))).get? q.1 = some q.2 ∧ g.get? q.1 = none ∧ base.get? q.1 = none := fun q hq => by
    have Nq : s'.heap.get? q.1 = some q.2 ∧ q.1 ≠ L ∧ g.get? q.1 = none := by
      rcases List.mem_cons.mp hq with z | z
      · rw [z]; exact N _ (.head _)
      · exact N q (.tail _ (.tail _ (.tail _ z)))
    refine ⟨off Nq.1 (hne q hq).1 (hne q hq).2 fun hm => ?_, Nq.2.2, fresh_of_stays K.stays Nq.2.2⟩
    rcases kts_mem hm with z | z
    · exact Nq.2.1 z
    · obtain ⟨_, o, ho, _⟩ := K.frames.mem z
      rw [Nq.2.2] at ho; cases ho
  have B_e : (hideAll s'.heap (e :: t :: (envOf name scope L a cd :: outer).filterMap (·.frame))).get? e = none := hideAll_none _ (.head _)
  have B_t : (hideAll s'.heap (e :: t :: (envOf name scope L a cd :: outer).filterMap (·.frame))).get? t = none := hideAll_none _ (.tail _ (.head _))
  have w1 : wpAny M (A.deeper (envOf name scope L a cd)) (leaving (envOf name scope L a cd) (.ref e)) (fun _ s'' => ∃ h', s'' = { s' with heap := h' } ∧ RaisedS base g outer e (.ref C) t vs ((dx, dob) :: news) h' ∧ g.UpToSlots h') E s' :=
    wpAny_leaving_firstW (a0 := .ref t) K'.stack (funFrames_hide K'.frames inFr) rfl Ne.1 (fun b o q => of_hideAll _ q) B_e rfl rfl rfl fun h' hL => by
      obtain ⟨k1, ⟨_, _, k2⟩, k3, k4⟩ := hL
      exact ⟨h', rfl, ⟨⟨_, st, sg, hl, ⟨k1, B_e, k2, k3⟩, B_t⟩, Heap.TupAt.of_slots ⟨_, _, Nt.1, rfl, rfl⟩ k4⟩, (Heap.UpToSlots.of_keeps F.keep).trans k4⟩
  refine wpAny_mono (wpAny_kept (kp_leaving _ _) w1) (fun _ s'' z => ?_) fun _ _ z => z.1
  obtain ⟨⟨h', rfl, R, U⟩, k⟩ := z
  exact hQ h' (raisedX_kept R k Ne.1 rfl rfl rfl) U
theorem leave_onX (K : Below A base outer g) (F : Fr g L g₂ m) (R : RaisedX base g₂ (envOf name scope L a cd :: outer) e C t vs dx dob ctx news s'.heap) (hsm : g₂.UpToSlots s'.heap)
    (hQ : ∀ h', RaisedX base g outer e C t vs dx dob ctx news h' → g.UpToSlots h' → Q () { s' with heap := h' }) :
    wpAny M (A.deeper (envOf name scope L a cd)) (leaving (envOf name scope L a cd) (.ref e)) Q E s' := by
  obtain ⟨R, oe, ws, he, hd, hf, h2⟩ := R
  have w1 : wpAny M (A.deeper (envOf name scope L a cd)) (leaving (envOf name scope L a cd) (.ref e)) (fun _ s'' => ∃ h', s'' = { s' with heap := h' } ∧ RaisedS base g outer e (.ref C) t vs ((dx, dob) :: news) h' ∧ g.UpToSlots h') E s' :=
    leave_onS K F R hsm fun h' R _ U => ⟨h', rfl, R, U⟩
  refine wpAny_mono (wpAny_kept (kp_leaving _ _) w1) (fun _ s'' z => ?_) fun _ _ z => z.1
  obtain ⟨⟨h', rfl, R, U⟩, k⟩ := z
  exact hQ h' (raisedX_kept R k he hd hf h2) U
end
/-- the ground before a turn of outer frames -/
theorem raisedX_turn {base G G' : Heap} {l : List Env} {e C t : Addr} {vs : List Value} {dx : Addr} {dob : Obj} {ctx : Value} {news : List (Addr × Obj)} {h : Heap} {fs : List Addr} (T : KtsTurn fs G G') (hfs : ∀ b ∈ fs, b ∈ l.filterMap (·.frame))
    (R : RaisedX base G' l e C t vs dx dob ctx news h) : RaisedX base G l e C t vs dx dob ctx news h := by
  obtain ⟨⟨⟨B, hB, hG, hl, hfl, hn⟩, htup⟩, r⟩ := R
  refine ⟨⟨⟨B, hB, fun b o q nm => hG b o (T.other b o q fun z => nm (hfs b z)) nm, fun q hq => ⟨(hl q hq).1, ?_, (hl q hq).2.2⟩, hfl, hn⟩, htup⟩, r⟩
  cases z : G.get? q.1 with
  | none => rfl
  | some o =>
    obtain ⟨sl, hs⟩ := T.up z
    have := (hl q hq).2.1
    rw [hs] at this; cases this
theorem up_turn {G G' h : Heap} {fs : List Addr} (T : KtsTurn fs G G') (U : G'.UpToSlots h) : G.UpToSlots h :=
  Heap.UpToSlots.trans (fun _ _ e _ => T.up e) U
theorem reset_X6 : True := by
  w_top off
  trivial
def RaisX (K : Frag) (E : Value → Shared → Prop) (v : Value) (s₁ : Shared) : Prop :=
  ∃ a C t dx, v = .ref a ∧ s₁.heap.get? a = some (excD C t dx) ∧ K.In s₁.heap ∧ ktsIn K C "BaseException" = true ∧ E (.ref a) s₁
def RaisY (K : Frag) (e₁ : Addr) (E : Value → Shared → Prop) (v : Value) (s₁ : Shared) : Prop :=
  ∃ a C t dx, v = .ref a ∧ s₁.heap.get? a = some (excD C t dx) ∧ K.In s₁.heap ∧ ktsIn K C "BaseException" = true ∧ e₁ ≠ a ∧ (∃ o₁ ws, s₁.heap.get? e₁ = some o₁ ∧ o₁.data = .fields ws ∧ ws[2]? = some .none) ∧
    E (.ref a) { s₁ with heap := s₁.heap.update a (Obj.mapFields (·.setIfInBounds 2 (.ref e₁))) }
section
variable {M : Model} {A : Around} {E : Value → Shared → Prop} {s : Shared} {K : Frag} {e : Expr} {env : Env} {pos : Pos} {Q : Flow → Shared → Prop}
theorem raise_mid {α : Type} {a C t dx : Addr} {s₁ : Shared} {Q : α → Shared → Prop} {f : Value → Sem α} (X : K.In s₁.heap) (q : ktsIn K C "BaseException" = true) (ha : s₁.heap.get? a = some (excD C t dx)) (h : wpAny M A (f (.ref a)) Q E s₁) :
    wpAny M A (do
      let cv ← (pure none : Sem (Option Value))
      let e ← holding cv.toList (excFromValue (.ref a) "exceptions must derive from BaseException")
      let e ← if ← isType (.ref a) then holding [e] (raisedFor (.ref a) e) else raisedInstance e
      setFlight e none
      f e) Q E s₁ := by
  obtain ⟨nm, q', N, bs, bm, hdct, sn, sub, ab, col, dd, k0, k1, k2, k3, k5, newId, hC, hb, _⟩ := kts_cls X q
  have hcB : (Value.ref C :: bm).contains (.type "BaseException") = true := by rw [List.contains_cons, hb, Bool.or_true]
  obtain ⟨hp, g, d, tk, os⟩ := s₁
  repeat (first | with_reducible refine wpAny_loadPart_at ha ?_ | with_reducible refine wpAny_loadPart_at hC ?_ | (with_reducible refine wpAny_isSubtype_exc hC ?_; rw [hcB]) | wp_step)
  exact h
theorem raise_own (hh : A.handled = none) (h : wpAny M A (eval e env) (RaisX K E) E s) : wpAny M A (exec (.Raise (some e) none pos) env) Q E s := by
  rw [arm_exec_Raise]
  refine wpAny_bind (wpAny_standAt ?_)
  unfold raiseStmt
  refine wpAny_bind (wpAny_bind (wpAny_mono h (fun v s₁ z => ?_) fun _ _ x => x))
  obtain ⟨a, C, t, dx, rfl, ha, X, q, hE⟩ := z
  refine wpAny_bind (wpAny_standAt (wpAny_pure ?_))
  exact raise_mid X q ha (wpAny_raiseNew_none hh hE)
end
theorem unchain_entry : entryFor table "proto.unchain" = some Builtin.«proto.unchain» := entryFor_of_tree (by kernel_rfl)
section
variable {prog : Program} {w : World} {A : Around} {E : Value → Shared → Prop} {s : Shared} {K : Frag} {e : Expr} {env : Env} {pos : Pos} {Q : Flow → Shared → Prop} {e₁ : Addr}
theorem raise_owned (hh : A.handled = some (.ref e₁)) (h : wpAny (model prog w) A (eval e env) (RaisY K e₁ E) E s) : wpAny (model prog w) A (exec (.Raise (some e) none pos) env) Q E s := by
  rw [arm_exec_Raise]
  refine wpAny_bind (wpAny_standAt ?_)
  unfold raiseStmt
  refine wpAny_bind (wpAny_bind (wpAny_mono h (fun v s₁ z => ?_) fun _ _ x => x))
  obtain ⟨a, C, t, dx, rfl, ha, X, q, hne, ⟨o₁, ws, ho, hd, h2⟩, hE⟩ := z
  refine wpAny_bind (wpAny_standAt (wpAny_pure ?_))
  refine raise_mid X q ha ?_
  unfold raiseNew
  refine wpAny_bind (wpAny_handled ?_)
  rw [hh]
  dsimp only
  have hb : ((Value.ref e₁ != Value.ref a) = true) := by simp [hne]
  rw [if_pos hb]
  refine wpAny_bind (wpAny_holding (wpAny_runValue (codeAny_builtin unchain_entry ?_)))
  unfold Builtin.«proto.unchain»
  refine wpAny_bind (wpAny_field ho hd h2 ?_)
  rw [if_pos (by rfl)]
  show wpAny _ _ (ret .none) _ _ _
  refine wpAny_pure ?_
  show wpAny _ _ (updateField a 2 (.ref e₁) >>= _) _ _ _
  exact wpAny_bind (wpAny_setField ha rfl (by show 2 < 6; decide) (wpAny_throw hE))
/-- the raise, over the ledger -/
theorem raisX_intro {h₀ : Heap} {L : Addr} {news : List (Addr × Obj)} {E : Value → Shared → Prop} {s₁ : Shared} {a C t dx : Addr} {m : Str → Option Value} (F : Fr h₀ L s₁.heap m) (N : News h₀ L s₁.heap news) (X₀ : K.In h₀) (hm : (a, excD C t dx) ∈ news) (q : ktsIn K C "BaseException" = true)
    (hE : E (.ref a) s₁) : RaisX K E (.ref a) s₁ := ⟨a, C, t, dx, rfl, (N _ hm).1, X₀.keeps F.keep, q, hE⟩
theorem raisY_intro {h₀ : Heap} {L : Addr} {rest : List (Addr × Obj)} {E : Value → Shared → Prop} {s₁ : Shared} {a C t dx : Addr} {dob o₁ : Obj} {ws : Array Value} {m : Str → Option Value} (F : Fr h₀ L s₁.heap m) (N : News h₀ L s₁.heap ((dx, dob) :: (a, excD C t dx) :: rest)) (X₀ : K.In h₀) (h1 : dx ≠ a) (h2 : ∀ p ∈ rest, p.1 ≠ a)
    (hm : (e₁, o₁) ∈ rest) (hd : o₁.data = .fields ws) (hc : ws[2]? = some .none) (q : ktsIn K C "BaseException" = true)
    (hE : ∀ h', Fr h₀ L h' m → News h₀ L h' ((dx, dob) :: (a, excC C t dx (.ref e₁)) :: rest) → E (.ref a) { s₁ with heap := h' }) : RaisY K e₁ E (.ref a) s₁ := by
  obtain ⟨F', N'⟩ := news_upd (pre := [(dx, dob)]) (o' := excC C t dx (.ref e₁)) (f := Obj.mapFields (·.setIfInBounds 2 (.ref e₁))) F N (List.forall_mem_cons.mpr ⟨h1, List.forall_mem_nil _⟩) h2 rfl rfl
  exact ⟨a, C, t, dx, rfl, (N _ (.tail _ (.head _))).1, X₀.keeps F.keep, q, h2 _ hm, ⟨o₁, ws, (N _ (.tail _ (.tail _ hm))).1, hd, hc⟩, hE _ F' N'⟩
end
theorem raise_own' {w : World} {A : Around} {E : Value → Shared → Prop} {s : Shared} {e : Expr} {env : Env} {pos : Pos} {Q : Flow → Shared → Prop} (hh : A.handled = none) (h : wpAny (model PR w) A (eval e env) (RaisX (kv.heap_1 w.params) E) E s) : wpAny (model PR w) A (exec (.Raise (some e) none pos) env) Q E s := raise_own hh h
theorem raise_owned' {w : World} {A : Around} {E : Value → Shared → Prop} {s : Shared} {e : Expr} {env : Env} {pos : Pos} {Q : Flow → Shared → Prop} {e₁ : Addr} (hh : A.handled = some (.ref e₁)) (h : wpAny (model PR w) A (eval e env) (RaisY (kv.heap_1 w.params) e₁ E) E s) : wpAny (model PR w) A (exec (.Raise (some e) none pos) env) Q E s := raise_owned hh h
theorem allLt_cons {d : Addr} {p : Addr × Obj} {r : List (Addr × Obj)} (h : @LT.lt Nat _ p.1 d) (k : AllLt d r) : AllLt d (p :: r) := ⟨h, k⟩
theorem allLt_nil {d : Addr} : AllLt d [] := trivial
theorem leave_raiseX' {M : Model} {A : Around} {E : Value → Shared → Prop} {s' : Shared} {base g : Heap} {outer : List Env} {L a e t C dx : Addr} {dob : Obj} {ctx : Value} {vs : List Value} {m : Str → Option Value} {name : Str} {scope : Scope} {cd : Value} {Q : Unit → Shared → Prop} {news : List (Addr × Obj)}
    (K : Below A base outer g) (F : Fr g L s'.heap m) (N : News g L s'.heap ((dx, dob) :: (e, excC C t dx ctx) :: (t, tupO vs) :: news)) (hl : AllLt t news) (h1 : @LT.lt Nat _ t e) (h2 : @LT.lt Nat _ e dx) (hk : scope.kind = .function)
    (hQ : ∀ h', RaisedX base g outer e C t vs dx dob ctx news h' → g.UpToSlots h' → Q () { s' with heap := h' }) :
    wpAny M (A.deeper (envOf name scope L a cd)) (leaving (envOf name scope L a cd) (.ref e)) Q E s' :=
  leave_raiseX K F N (List.forall_mem_cons.mpr ⟨⟨Nat.ne_of_gt h2, Nat.ne_of_gt (Nat.lt_trans h1 h2)⟩, fun q hq => ⟨Nat.ne_of_lt (Nat.lt_trans (ktn_ltOf hl q hq) h1), Nat.ne_of_lt (ktn_ltOf hl q hq)⟩⟩) hQ hk
-- LOCAL
local macro_rules | `(tactic| walk_at "my alt") => `(tactic| (repeat (first | exact allLt_nil | walk_at "my lt" | exact allLt_trans (by walk_at "my lt") (by omega) | refine allLt_cons (by omega) ?_)))
local macro_rules | `(tactic| walk_at "exec Raise some none") => `(tactic| (k_here; k_dflt (first | refine raise_own' rfl ?_ | refine raise_owned' rfl ?_)))
local macro_rules | `(tactic| walk_at "RaisX") => `(tactic| (k_dflt (refine' raisX_intro ?k1 ?k2 ?k3 ?k4 ?k5 ?_; (case k1 | k2 | k3 => k_asm); (case k4 => k_mem); (case k5 => kts_isx))))
local macro_rules | `(tactic| walk_at "leaving ref") => `(tactic| (k_here; k_dflt (first | (refine' leave_raiseX' ?k1 ?k2 ?k3 ?k4 ?k5 ?k6 ?k7 ?_; (case k1 | k2 | k3 => k_asm); (case k4 => walk_at "my alt"); (case k5 | k6 => omega); (case k7 => rfl); k_whole; intro h' R' U'; (try dsimp only at R' U' ⊢)) | (refine' leave_onX ?k1 ?k2 ?k3 ?k4 ?_; (case k1 | k3 | k2 | k4 => assumption); k_whole; intro h' R' U'; (try dsimp only at R' U' ⊢)))))
-- END LOCAL
theorem reset_X7 : True := by
  w_top off
  trivial
section
variable {A₀ : Around} {base g G h₆ : Heap} {outer : List Env} {L a e t C dx : Addr} {dob : Obj} {ctx : Value} {m : Str → Option Value} {name : Str} {scope : Scope} {cd : Value} {vs : List Value} {news : List (Addr × Obj)}
/-- what is known where a handler of an own class lands -/
def LandX (base g : Heap) (A₀ : Around) (outer : List Env) (L : Addr) (m : Str → Option Value) (e C dx : Addr) (dob : Obj) (ctx : Value) (news : List (Addr × Obj)) (h' g' : Heap) : Prop :=
  KtsTurn (outer.filterMap (·.frame)) g g' ∧ Fr g' L h' m ∧ Below A₀ base outer g' ∧ ∃ oe ws, oe.cls = .ref C ∧ oe.dict = some dx ∧ oe.data = .fields ws ∧ ws[2]? = some ctx ∧ News g' L h' ((e, oe) :: (dx, dob) :: news)
theorem landX (R : RaisedX base G (envOf name scope L a cd :: outer) e C t vs dx dob ctx news h₆) (F : Fr g L G m) (K : Below A₀ base outer g) (U : G.UpToSlots h₆) : ∃ g', LandX base g A₀ outer L m e C dx dob ctx news h₆ g' := by
  obtain ⟨⟨⟨B, hB, hBG, hl, hfl, hnew⟩, htup⟩, oe, ws, he, hdd, hf, h2⟩ := R
  have hL : B.get? L = none := by
    obtain ⟨_, ⟨L', _, hf, hn', _⟩, _⟩ := hfl.2.2.1
    obtain rfl : L = L' := Option.some.inj hf
    exact hn'
  obtain ⟨g₆, T₆, F₆, K₆⟩ := kts_ground K F hBG hfl.1 U
  obtain ⟨oe', ws', hoe, hoec, hoed, _⟩ := hfl.first
  obtain rfl : oe' = oe := Option.some.inj (hoe.symm.trans he)
  have ne₆ : g₆.get? e = none := T₆.none_ _ (kts_fresh F hBG hfl.2.1 fun o ho mm => by
    obtain ⟨_, o', ho', hnf⟩ := K.frames.mem mm
    rw [ho] at ho'
    cases ho'
    obtain ⟨sl, hs⟩ := U _ _ (F.keep _ _ ho) hnf
    rw [hoe] at hs
    cases hs
    exact hnf _ hoed)
  have Nl : News g₆ L h₆ ((dx, dob) :: news) := fun q hq => ⟨hfl.1 _ _ (hl q hq).1, (fun z => by have := (hl q hq).1; rw [z, hL] at this; cases this), T₆.none_ _ (kts_none F.keep (hl q hq).2.1)⟩
  exact ⟨g₆, T₆, F₆, K₆, oe', ws, hoec, hdd, hf, h2, News.more F₆ Nl hoe (fun es n q => by rw [hoed] at q; cases q) ne₆⟩
end
section
variable {M : Model} {A : Around} {E : Value → Shared → Prop} {s' : Shared} {base G : Heap} {outer : List Env} {env : Env} {L e t C dx : Addr} {dob : Obj} {ctx : Value} {vs : List Value} {news : List (Addr × Obj)}
theorem flight_again {Q : Unit → Shared → Prop} {l : List Env} (R : RaisedX base G l e C t vs dx dob ctx news s'.heap) (U : G.UpToSlots s'.heap)
    (k : ∀ h', RaisedX base G l e C t vs dx dob ctx news h' → G.UpToSlots h' → Q () { s' with heap := h' }) : wpAny M A (setFlight (.ref e) none) Q E s' := by
  obtain ⟨⟨⟨B, hB, hBG, hl, hfl, hnew⟩, htup⟩, oe, ws, he, hd, hf, h2⟩ := R
  have w1 : wpAny M A (setFlight (.ref e) none) (fun _ s'' => ∃ h', s'' = { s' with heap := h' } ∧ Heap.FlyingW B l e (.ref C) (.ref t) h' ∧ s'.heap.UpToSlots h') E s' := lands_againW hfl fun h' x y => ⟨h', rfl, x, y⟩
  refine wpAny_mono (wpAny_kept (kp_setFlight _ _) w1) (fun _ s'' z => ?_) fun _ _ z => z.1
  obtain ⟨⟨h', rfl, x, y⟩, kk⟩ := z
  exact k h' (raisedX_kept ⟨⟨B, hB, hBG, hl, x, hnew⟩, htup.of_slots y⟩ kk he hd hf h2) (U.trans y)
theorem caught_head {α : Type} {T : Sem α} {Q : α → Shared → Prop} (hfr : A.frames = some (env :: outer)) (hf : env.frame = some L) (R : RaisedX base G (env :: outer) e C t vs dx dob ctx news s'.heap) (U : G.UpToSlots s'.heap)
    (k : ∀ h', RaisedX base G (env :: outer) e C t vs dx dob ctx news h' → G.UpToSlots h' → wpAny M A T Q E { s' with heap := h' }) :
    wpAny M A (noteFrame (.ref e) env) (fun _ s₂ => wpAny M A (setFlight (.ref e) none) (fun _ s₃ => wpAny M A T Q E s₃) E s₂) E s' := by
  obtain ⟨⟨⟨B, hB, hBG, hl, hfl, hnew⟩, htup⟩, oe, ws, he, hd, hff, h2⟩ := R
  have w1 : wpAny M A (noteFrame (.ref e) env) (fun _ s'' => ∃ h', s'' = { s' with heap := h' } ∧ Heap.HeldW B (env :: outer) e (.ref C) (.ref t) L h' ∧ s'.heap.UpToSlots h') E s' := wpAny_looks_onW hfr hf hfl fun h' x y => ⟨h', rfl, x, y⟩
  refine wpAny_mono (wpAny_kept (kp_note _ _) w1) (fun _ s'' z => ?_) fun _ _ z => z.1
  obtain ⟨⟨h₄, rfl, x, y⟩, k₄⟩ := z
  have w2 : wpAny M A (setFlight (.ref e) none) (fun _ s'' => ∃ h', s'' = { s' with heap := h' } ∧ Heap.FlyingW B (env :: outer) e (.ref C) (.ref t) h' ∧ h₄.UpToSlots h') E { s' with heap := h₄ } := wpAny_landsW x fun h' x y => ⟨h', rfl, x, y⟩
  refine wpAny_mono (wpAny_kept (kp_setFlight _ _) w2) (fun _ s'' z => ?_) fun _ _ z => z.1
  obtain ⟨⟨h₅, rfl, x', y'⟩, k₅⟩ := z
  exact k h₅ (raisedX_kept ⟨⟨B, hB, hBG, hl, x', hnew⟩, htup.of_slots (y.trans y')⟩ (k₄.trans k₅) he hd hff h2) (U.trans (y.trans y'))
end
section
variable {prog : Program} {w : World} {A₀ : Around} {E : Value → Shared → Prop} {s' : Shared} {base g G : Heap} {outer : List Env} {L a e t C dx : Addr} {dob : Obj} {ctx : Value} {m : Str → Option Value} {name : Str} {scope : Scope} {cd : Value}
  {vs : List Value} {n : Str} {b₀ : Stmt} {suite : List Stmt} {pos np : Pos} {rest : List ExceptHandler} {Q : Flow → Shared → Prop} {news : List (Addr × Obj)} {KF : Frag}
  {p : Program} {loose : List Str} {mean : ExcName → Option Value} {mg mb : Str → Option Value} {x : Str}
theorem caught_X0 (R : RaisedX base G (envOf name scope L a cd :: outer) e C t vs dx dob ctx news s'.heap) (F : Fr g L G m) (K : Below A₀ base outer g) (U : G.UpToSlots s'.heap) (XB : KF.In base) (TB : Top p loose mean mg mb base)
    (ex : nsIn KF mainGlobals x = some (some (.ref C))) (q : ktsIn KF C "BaseException" = true)
    (k : ∀ h' g', LandX base g A₀ outer L m e C dx dob ctx news h' g' → KF.In g' → Top p loose mean mg mb g' →
      wpAny (model prog w) ((A₀.deeper (envOf name scope L a cd)).mark (some (.ref e))) (execs (b₀ :: suite) (envOf name scope L a cd)) Q E { s' with heap := h' })
    (hk : scope.kind = .function := by rfl) (hx : (envOf name scope L a cd).kindOf x = some .globalImplicit := by rfl) (hd : (x == ("__debug__" : Str)) = false := by decide)
    (hE : PassesOwnAt (model prog w) ((A₀.deeper (envOf name scope L a cd)).mark (some (.ref e))) (A₀.deeper (envOf name scope L a cd)) (envOf name scope L a cd) E := by passes_own) :
    wpAny (model prog w) (A₀.deeper (envOf name scope L a cd)) (noteFrame (.ref e) (envOf name scope L a cd))
      (fun _ s₂ => wpAny (model prog w) (A₀.deeper (envOf name scope L a cd)) (setFlight (.ref e) none) (fun _ s₃ =>
        wpAny (model prog w) (A₀.deeper (envOf name scope L a cd)) (handleBy (.ref e) (envOf name scope L a cd) (.ExceptHandler (some (.Name x np)) none (b₀ :: suite) pos :: rest)) Q E s₃) E s₂) E s' := by
  refine caught_head (Around.frames_deeper K.stack) rfl R U fun h₅ R₅ U₅ => ?_
  obtain ⟨g₅, T₅, F₅, K₅, oe, ws, hoec, -, -, -, N₅⟩ := landX R₅ F K U₅
  have X₅ : KF.In g₅ := XB.keeps K₅.stays
  have P₅ : TopRead p loose mg mb g₅ := topRead_of (TB.keeps K₅.stays)
  obtain ⟨nm, q', N, bs, bm, hdct, sn, sub, ab, col, dd, k0, k1, k2, k3, k5, newId, hC, hbase, hbT⟩ := kts_cls X₅ q
  have hC₅ := F₅.keep _ _ hC
  refine wpAny_handleBy_cons (codeAny_handlers_test (name_K F₅ X₅ P₅ ex ?_ hk hx hd)) (by intro q; cases q)
  refine wpAny_excMatches_sub_self hC₅ (N₅ _ (.head _)).1 hoec hbase (codeAny_handlers_suite ?_)
  refine flight_again (s' := { s' with heap := h₅ }) R₅ U₅ fun h₆ R₆ U₆ => ?_
  obtain ⟨g₆, Z⟩ := landX R₆ F K U₆
  exact wpAny_passesOwnAt hE (k h₆ g₆ Z (XB.keeps Z.2.2.1.stays) (TB.keeps Z.2.2.1.stays))
theorem caught_XB (R : RaisedX base G (envOf name scope L a cd :: outer) e C t vs dx dob ctx news s'.heap) (F : Fr g L G m) (K : Below A₀ base outer g) (U : G.UpToSlots s'.heap) (XB : KF.In base) (TB : Top p loose mean mg mb base)
    (ex : nsIn KF mainGlobals x = some (some (.ref C))) (q : ktsIn KF C "BaseException" = true)
    (k : ∀ h' g' tk, LandX base g A₀ outer L (fun y => if y = n then some (.ref e) else m y) e C dx dob ctx news h' g' → KF.In g' → Top p loose mean mg mb g' →
      wpAny (model prog w) ((A₀.deeper (envOf name scope L a cd)).mark (some (.ref e))) (execs (b₀ :: suite) (envOf name scope L a cd))
        (fun f s₄ => wpAny (model prog w) (A₀.deeper (envOf name scope L a cd)) (do bindName (envOf name scope L a cd) n .none; unbindBehindTheSuite (envOf name scope L a cd) n pos) (fun _ s₅ => Q f s₅) E s₄)
        (AsSuiteRaised (model prog w) ((A₀.deeper (envOf name scope L a cd)).mark (some (.ref e))) (envOf name scope L a cd) n pos (notedBy (model prog w) ((A₀.deeper (envOf name scope L a cd)).mark (some (.ref e))) (envOf name scope L a cd) (cameBackBy (model prog w) (A₀.deeper (envOf name scope L a cd)) (envOf name scope L a cd) E)))
        { s' with heap := h', toks := tk })
    (hk : scope.kind = .function := by rfl) (hlo : (envOf name scope L a cd).kindOf n = some .local := by rfl) (hx : (envOf name scope L a cd).kindOf x = some .globalImplicit := by rfl) (hd : (x == ("__debug__" : Str)) = false := by decide) :
    wpAny (model prog w) (A₀.deeper (envOf name scope L a cd)) (noteFrame (.ref e) (envOf name scope L a cd))
      (fun _ s₂ => wpAny (model prog w) (A₀.deeper (envOf name scope L a cd)) (setFlight (.ref e) none) (fun _ s₃ =>
        wpAny (model prog w) (A₀.deeper (envOf name scope L a cd)) (handleBy (.ref e) (envOf name scope L a cd) (.ExceptHandler (some (.Name x np)) (some n) (b₀ :: suite) pos :: rest)) Q E s₃) E s₂) E s' := by
  refine caught_head (Around.frames_deeper K.stack) rfl R U fun h₅ R₅ U₅ => ?_
  obtain ⟨g₅, T₅, F₅, K₅, oe, ws, hoec, -, -, -, N₅⟩ := landX R₅ F K U₅
  have X₅ : KF.In g₅ := XB.keeps K₅.stays
  have P₅ : TopRead p loose mg mb g₅ := topRead_of (TB.keeps K₅.stays)
  obtain ⟨nm, q', N, bs, bm, hdct, sn, sub, ab, col, dd, k0, k1, k2, k3, k5, newId, hC, hbase, hbT⟩ := kts_cls X₅ q
  have hC₅ := F₅.keep _ _ hC
  refine wpAny_handleBy_cons (codeAny_handlers_test (name_K F₅ X₅ P₅ ex ?_ hk hx hd)) (by intro q; cases q)
  refine wpAny_excMatches_sub_self hC₅ (N₅ _ (.head _)).1 hoec hbase (codeAny_handlers_suite_as ?_)
  refine flight_again (s' := { s' with heap := h₅ }) R₅ U₅ fun h₆ R₆ U₆ => ?_
  obtain ⟨g₆, T₆, F₆, K₆, oe, ws, h1, h2, h3, h4, N₆⟩ := landX R₆ F K U₆
  refine stN F₆ N₆ (fun h₇ F₇ N₇ => ?_) hk hlo
  exact k h₇ g₆ _ ⟨T₆, F₇, K₆, oe, ws, h1, h2, h3, h4, N₇⟩ (XB.keeps K₆.stays) (TB.keeps K₆.stays)
end
theorem reset_X8 : True := by
  w_top off
  trivial
section
variable {prog : Program} {w : World} {A : Around} {E : Value → Shared → Prop} {s : Shared} {K : Frag} {x C : Addr} {ox : Obj} {od : Option Obj} {name : Str} {expr : Bool} {Q : Value → Shared → Prop} {v : Value}
theorem ga_find {tk : Tok} {Q : Fin → Shared → Prop} (X : K.In s.heap) (I : InstAt s.heap x ox C od) (hf : findObj K C od name = some (.value v)) (h : Q (.done (.ret v)) s) :
    wpAny (model prog w) A (Builtin.«object.__getattribute__» ⟨[.ref x, .str name tk], []⟩) Q E s := by
  obtain ⟨hh', g, d, t, os⟩ := s
  have L0 := I.type (M := model prog w)
  have L1 := looks_find (M := model prog w) X I hf
  refine wpAny_bind (wpAny_pure (wpAny_bind (wpAny_pure (wpAny_bind (L0.here (wpAny_bind (L1.here ?_)))))))
  exact wpAny_pure h
theorem exc_get (X : K.In s.heap) (I : InstAt s.heap x ox C od) (hga : findIn K (.ref C) "__getattribute__" = some (some (.builtin "BaseException.__getattribute__"))) (hgb : findIn K (.ref C) "__getattr__" = some none) (hm : mroIn K C (.type "BaseException") = some true)
    (hf : findObj K C od name = some (.value v)) (hh : handedIn v = true) (h : Q v { s with toks := s.toks + 1 }) : wpAny (model prog w) A (getAttr (.ref x) name expr) Q E s := by
  obtain ⟨hh', g, d, t, os⟩ := s
  have L0 := I.type (M := model prog w)
  have L1 := looks_findIn (M := model prog w) X hga
  have L2 := looks_findIn (M := model prog w) X hgb
  have L3 : Looks (model prog w) hh' (isInstance (.ref x) (.type "BaseException")) true := L0.andThen (looks_mroIn X hm)
  have f3 := PySem.F.attr_Exception.ga.bind (.ref x)
  have hx0 : (expr && onTheHeap (Value.builtin "BaseException.__getattribute__")) = false := by cases expr <;> rfl
  have hx2 : (Value.builtin "BaseException.__getattribute__" == Value.builtin "object.__getattribute__") = false := by decide +kernel
  have hk : builtinKind "BaseException.__getattribute__" = some .slot := by decide +kernel
  have hsplit : splitId "BaseException.__getattribute__" = some ("BaseException", "__getattribute__") := by decide +kernel
  have ha := F.args_bexc_ga (.ref x) (.str name t)
  unfold getAttr getAttrBy
  refine wpAny_bind (wpAny_mkText (wpAny_holding (wpAny_bind (L0.at (wpAny_bind (L1.at ?_))))))
  dsimp only
  rw [hx2, Bool.and_false]
  show wpAny _ _ (getAttrByItsOwn _ _ _ _ _ _) _ _ _
  unfold getAttrByItsOwn hookBefore callGetattribute boundAndCalled
  rw [if_pos (show onTheHeap (Value.ref C) = true from rfl)]
  refine wpAny_bind (L2.at ?_)
  rw [hx0]
  repeat (any_goals (first | assumption | wp_step))
  have L1' := looks_find (M := model prog w) X I hf
  refine codeAny_call_builtin PySem.F.attr_Exception.ga.plain PySem.F.entry_bexc_ga ?_
  have chk : ∀ (A' : Around) (Q' : Unit → Shared → Prop) (E' : Value → Shared → Prop) (tk : Nat), Q' () ⟨hh', g, d, tk, os⟩ → wpAny (model prog w) A' (checkBuiltinCall "BaseException.__getattribute__" ⟨[.ref x, .str name t], []⟩) Q' E' ⟨hh', g, d, tk, os⟩ := by
    intro A' Q' E' tk hq
    simp only [checkBuiltinCall, hk, hsplit]
    refine wpAny_bind (L3.at ?_)
    repeat (first | exact hq | wp_step)
  refine chk _ _ _ _ ?_
  refine ga_find (s := ⟨hh', g, d, t + 1, os⟩) X I hf ?_
  show wpAny _ _ (handedOut v) _ _ _
  rw [handedOut_of hh]
  exact wpAny_pure h
end
theorem exc_got {prog : Program} {w : World} {A : Around} {E : Value → Shared → Prop} {s : Shared} {K : Frag} {x C dx L : Addr} {ox dob : Obj} {h₀ : Heap} {m : Str → Option Value} {news : List (Addr × Obj)} {name : Str} {expr : Bool} {Q : Value → Shared → Prop} {v : Value} {ws : Array Value} {attr : Option Value}
    (F : Fr h₀ L s.heap m) (X₀ : K.In h₀) (N : News h₀ L s.heap news) (hx : (x, ox) ∈ news) (hd : (dx, dob) ∈ news) (hc : ox.cls = .ref C) (hdd : ox.dict = some dx) (hf : ox.data = .fields ws)
    (hga : findIn K (.ref C) "__getattribute__" = some (some (.builtin "BaseException.__getattribute__"))) (hgb : findIn K (.ref C) "__getattr__" = some none) (hm : mroIn K C (.type "BaseException") = some true)
    (hdi : hasDictIn K C = true) (ha : findIn K (.ref C) name = some attr) (hn : noGet K attr = true) (hl : lookIn name dob = some (some v)) (hh : handedIn v = true) (h : Q v { s with toks := s.toks + 1 }) : wpAny (model prog w) A (getAttr (.ref x) name expr) Q E s :=
  exc_get (X₀.keeps F.keep) (od := some dob) ⟨(N _ hx).1, hc, by unfold notCls; rw [hf], by rw [hdd]; exact (N _ hd).1⟩ hga hgb hm (findObj_own hdi ha hn hl) hh h
-- LOCAL
local macro_rules | `(tactic| walk_at "getAttr ref") => `(tactic| (k_here; (with_reducible show wpAny _ _ (getAttr (Value.ref _) (Str.ofString "message") _) _ _ _); k_dflt (refine' exc_got ?k1 ?k2 ?k3 ?k4 ?k5 ?k6 ?k7 ?k8 ?k9 ?k10 ?k11 ?k12 ?k13 ?k14 ?k15 ?k16 ?_; (case k1 | k2 | k3 => k_asm); (case k4 => k_mem); (case k6 | k7 | k8 => assumption); (case k5 => k_mem); (case k9 | k10 | k11 | k12 | k13 | k14 => k_is); (case k15 => first | rfl | k_get | decide +kernel); (case k16 => k_handed); k_whole)))
-- END LOCAL
theorem reset_S1 : True := by
  w_top off
  trivial
abbrev numD (w : World) (k1 k2 : Tok) (t : Str) (kt : Tok) (n : Int) (kn : Tok) : Obj := dictOf [⟨PyData.keyHash w.params "text", .str "text" k1, .str t kt⟩, ⟨PyData.keyHash w.params "at", .str "at" k2, .int n kn⟩] 2
/-- is the sign at place n one of these -/
def oneAt (t : Str) (n : Int) (signs : Str) : Bool := decide (n < (t.length : Int)) && !(Builtin.Str.occurrences signs (Txt.item t n) 0 signs.length 1).isEmpty
theorem oneAt_lt {t signs : Str} {n : Int} (h : oneAt t n signs = true) : n < (t.length : Int) := by
  unfold oneAt at h
  exact of_decide_eq_true (Bool.and_eq_true_iff.mp h).1
theorem item_in {prog : Program} {w : World} {A : Around} {E : Value → Shared → Prop} {s : Shared} {value slice : Expr} {x : Str} {t u : Tok} {i : Int} {Q : Value → Shared → Prop} (h0 : 0 ≤ i) (h1 : i < (x.length : Int)) (hl : x.length < 1000) (h : Q (.str (Txt.item x i) s.toks) { s with toks := s.toks + 1 })
    (hs : subscripted slice false (.str x t) (.int i u) = operate [.str x t, .int i u] (getItem (.str x t) (.int i u)) := by with_unfolding_all rfl)
    (ht : ∀ r, letTemporaryGo value (.str x t) r = pure () := by intro _; with_unfolding_all rfl) : wpAny (model prog w) A (subscriptTail value slice (.str x t) (.int i u)) Q E s :=
  item_str (fitsSsize_of (N := 9223372036854775808) (by omega) (by omega) (by decide)) (by omega) h1 (fun _ => h) hs ht
-- LOCAL
local macro_rules | `(tactic| walk_at "subscriptTail") => `(tactic| (k_here; (with_reducible show wpAny _ _ (subscriptTail _ _ (Value.str _ _) (Value.int _ _)) _ _ _); (refine item_in (by omega) (by omega) (by omega) ?_)))
-- END LOCAL
set_option maxHeartbeats 4000000 in
theorem t_isone (w : World) (mean : ExcName → Option Value) (mg mb : Str → Option Value) (x dx : Addr) (t signs : Str) (n : Int) (k1 k2 kt kn ks : Tok) (h0 : 0 ≤ n) (ht : t.length < 100) :
    Tell w mean mg mb 3 137 [.ref x, .str signs ks] [(x, instObj 154 dx), (dx, numD w k1 k2 t kt n kn)] (fun r tl => r = .bool (oneAt t n signs) ∧ tl = []) := by
  intro dp un gd cn cs a ccd cl outer A₀ base h₀ L m news s Q E B F X N T hk hR hd hu hret
  have mx := hR _ (List.Mem.head _)
  have md := hR _ (List.Mem.tail _ (List.Mem.head _))
  refine wpAny_call ?_
  k_with_none
  k_dflt walk_at "my enter"
  k_steps
  · refine ret0 hret (by k_asm) (by k_asm) (by walk_at "my keep") ⟨congrArg Value.bool ?_, rfl⟩
    unfold oneAt
    rw [decide_eq_true (by assumption), Bool.true_and]
  · refine ret0 hret (by k_asm) (by k_asm) (by walk_at "my keep") ⟨congrArg Value.bool ?_, rfl⟩
    unfold oneAt
    rw [decide_eq_false (by assumption), Bool.false_and]
-- LOCAL
local macro_rules | `(tactic| walk_at "call ref") => `(tactic| (k_here; (with_reducible apply at_ref 137; k_dflt (apply tell_val (t_isone _ _ _ _ _ _ _ _ _ _ _ _ _ _ _ _); walk_at "my u"; walk_at "my val"))))
-- END LOCAL
set_option maxHeartbeats 4000000 in
theorem t_skip (w : World) (mean : ExcName → Option Value) (mg mb : Str → Option Value) (x dx : Addr) (t signs : Str) (n : Int) (k1 k2 kt kn ks : Tok) (h0 : 0 ≤ n) (ht : t.length < 100) :
    TellU w mean mg mb 5 144 [.ref x, .str signs ks] dx (numD w k1 k2 t kt n kn) [(x, instObj 154 dx)]
      (fun r tl o' => tl = [] ∧ ((oneAt t n signs = false ∧ (∃ tk, r = .str "" tk) ∧ o' = numD w k1 k2 t kt n kn) ∨ (oneAt t n signs = true ∧ (∃ tk, r = .str (Txt.item t n) tk) ∧ ∃ kn', o' = numD w k1 k2 t kt (n + 1) kn'))) := by
  intro dp un gd cn cs a ccd cl outer A₀ base h₀ L m news nw s Q E B F X N T hk hU hR hd hu hret
  obtain ⟨oth, ho1, ho2, ho3, ho4⟩ := upd_open hU
  have hx := hR _ (List.Mem.head _)
  have mx := ho3 _ hx.1 hx.2
  have hne := hx.2
  dsimp only at hne
  replace N := cb_drop N ho1
  refine wpAny_call ?_
  k_with_none
  k_dflt walk_at "my enter"
  k_steps
  · have hlt := oneAt_lt (t := t) (n := n) (signs := signs) (by assumption)
    k_steps
    have e : n + 1 - 1 = n := by omega
    rw [e]
    exact hret _ [] _ _ _ (by k_asm) (cb_drop (by k_asm) (ho4 _)) ktn_ord0 ⟨rfl, .inr ⟨by assumption, ⟨_, rfl⟩, _, rfl⟩⟩
  · exact hret _ [] _ _ _ (by k_asm) (cb_drop (by k_asm) (ho4 _)) ktn_ord0 ⟨rfl, .inl ⟨by assumption, ⟨_, rfl⟩, rfl⟩⟩
theorem reset_S2 : True := by
  w_top off
  trivial
abbrev digitsS : Str := "0123456789"
/-- the run of digits from n ends at n' -/
def DigRun (t : Str) (n n' : Int) : Prop := n ≤ n' ∧ n' ≤ (t.length : Int) ∧ (∀ j, n ≤ j → j < n' → oneAt t j digitsS = true) ∧ oneAt t n' digitsS = false
theorem dig_turn {t : Str} {n f : Int} (h1 : n ≤ f) (h3 : ∀ j, n ≤ j → j < f → oneAt t j digitsS = true) (h : oneAt t f digitsS = true) : n ≤ f + 1 ∧ f + 1 ≤ (t.length : Int) ∧ ∀ j, n ≤ j → j < f + 1 → oneAt t j digitsS = true := by
  have := oneAt_lt h
  refine ⟨by omega, by omega, fun j a b => ?_⟩
  by_cases q : j = f
  · rw [q]; exact h
  · exact h3 j a (by omega)
theorem dig_less {t : Str} {f : Int} (h : oneAt t f digitsS = true) : ((t.length : Int) - (f + 1)).toNat < ((t.length : Int) - f).toNat := by
  have := oneAt_lt h
  omega
theorem digRun_is {t : Str} {n n' N : Int} (R : DigRun t n n') (hN : n ≤ N) (h1 : ∀ j, n ≤ j → j < N → oneAt t j digitsS = true) (h2 : oneAt t N digitsS = false) : n' = N := by
  obtain ⟨a, -, c, d⟩ := R
  rcases Int.lt_trichotomy n' N with q | q | q
  · rw [h1 n' a q] at d; cases d
  · exact q
  · rw [c N hN q] at h2; cases h2
set_option maxHeartbeats 4000000 in
theorem t_digits (w : World) (mean : ExcName → Option Value) (mg mb : Str → Option Value) (x dx : Addr) (t : Str) (n : Int) (k1 k2 kt kn : Tok) (h0 : 0 ≤ n ∧ n ≤ (t.length : Int)) (ht : t.length < 100) :
    TellU w mean mg mb 5 151 [.ref x] dx (numD w k1 k2 t kt n kn) [(x, instObj 154 dx)]
      (fun r tl o' => tl = [] ∧ ∃ (n' : Int) (kn' tk : Tok), DigRun t n n' ∧ r = .str (Txt.slice t (some n) (some n')) tk ∧ o' = numD w k1 k2 t kt n' kn') := by
  intro dp un gd cn cs a ccd cl outer A₀ base h₀ L m news nw s Q E B F X N T hk hU hR hd hu hret
  obtain ⟨oth, ho1, ho2, ho3, ho4⟩ := upd_open hU
  have hx := hR _ (List.Mem.head _)
  have mx := ho3 _ hx.1 hx.2
  have hne := hx.2
  dsimp only at hne
  replace N := cb_drop (news := (dx, numD w k1 k2 t kt n kn) :: (x, instObj 154 dx) :: oth) (cb_drop N ho1) (drop_two (List.Mem.head _) (drop_two (List.Mem.tail _ mx) (drop_cons drop_all)))
  refine wpAny_call ?_
  k_with_none
  k_dflt walk_at "my enter"
  repeat' ((fail_if_success (with_reducible show wpAny _ _ (exec (Stmt.While _ _ _ _) _) _ _ _)); (first | (k_unfold; (try dsimp only)) | (k_end; wrow_close) | walk1 | (dsimp only; walk1)))
  dsimp only [numD] at *
  k_while (fun _ n' => n ≤ n' ∧ n' ≤ (t.length : Int) ∧ ∀ j, n ≤ j → j < n' → oneAt t j digitsS = true) (fun _ n' => ((t.length : Int) - n').toNat) "self.at"
  (k_with "state" => exact dig_turn (by assumption) (by assumption) (by assumption))
  (k_with "measure" => exact dig_less (by assumption))
  k_steps
  exact hret _ [] _ _ _ (by k_asm) (cb_drop (by k_asm) (drop_trans (ho4 _) (drop_two (List.Mem.head _) (drop_cons (drop_cons drop_all))))) ktn_ord0 ⟨rfl, _, _, _, ⟨by assumption, by assumption, by assumption, by assumption⟩, rfl, rfl⟩
theorem reset_S3 : True := by
  w_top off
  trivial
/-- a skip at a place that bears none, or one, of the signs -/
theorem t_skipN (w : World) (mean : ExcName → Option Value) (mg mb : Str → Option Value) (x dx : Addr) (t signs : Str) (n : Int) (k1 k2 kt kn ks : Tok) (h0 : 0 ≤ n) (ht : t.length < 100) (h : oneAt t n signs = false) :
    TellU w mean mg mb 5 144 [.ref x, .str signs ks] dx (numD w k1 k2 t kt n kn) [(x, instObj 154 dx)] (fun r tl o' => tl = [] ∧ (∃ tk, r = .str "" tk) ∧ ∃ kn', o' = numD w k1 k2 t kt n kn') := by
  intro dp un gd cn cs a ccd cl outer A₀ base h₀ L m news nw s Q E B F X N T hk hU hR hd hu hret
  refine t_skip w mean mg mb x dx t signs n k1 k2 kt kn ks h0 ht _ _ _ _ _ _ _ _ _ _ _ _ _ _ _ _ _ _ _ B F X N T hk hU hR hd hu fun r tl o' h' tk' F' N' l ho => hret r tl o' h' tk' F' N' l ⟨ho.1, ?_⟩
  rcases ho.2 with z | z
  · exact ⟨z.2.1, _, z.2.2⟩
  · rw [h] at z; exact absurd z.1 (by decide)
theorem t_skipY (w : World) (mean : ExcName → Option Value) (mg mb : Str → Option Value) (x dx : Addr) (t signs : Str) (n n₁ : Int) (c : Str) (k1 k2 kt kn ks : Tok) (h0 : 0 ≤ n) (ht : t.length < 100) (h : oneAt t n signs = true) (hc : Txt.item t n = c) (hn : n + 1 = n₁) :
    TellU w mean mg mb 5 144 [.ref x, .str signs ks] dx (numD w k1 k2 t kt n kn) [(x, instObj 154 dx)] (fun r tl o' => tl = [] ∧ (∃ tk, r = .str c tk) ∧ ∃ kn', o' = numD w k1 k2 t kt n₁ kn') := by
  intro dp un gd cn cs a ccd cl outer A₀ base h₀ L m news nw s Q E B F X N T hk hU hR hd hu hret
  refine t_skip w mean mg mb x dx t signs n k1 k2 kt kn ks h0 ht _ _ _ _ _ _ _ _ _ _ _ _ _ _ _ _ _ _ _ B F X N T hk hU hR hd hu fun r tl o' h' tk' F' N' l ho => hret r tl o' h' tk' F' N' l ⟨ho.1, ?_⟩
  rcases ho.2 with z | z
  · rw [h] at z; exact absurd z.1 (by decide)
  · rw [hc, hn] at z; exact z.2
/-- these digits stand at n, and no more -/
def digOk (t : Str) (n : Int) (k : Nat) (d : Str) : Bool := (List.range k).all (fun (i : Nat) => oneAt t (n + (i : Int)) digitsS) && !oneAt t (n + (k : Int)) digitsS && decide (Txt.slice t (some n) (some (n + (k : Int))) = d)
theorem t_digitsC (w : World) (mean : ExcName → Option Value) (mg mb : Str → Option Value) (x dx : Addr) (t : Str) (n n₁ : Int) (k : Nat) (d : Str) (k1 k2 kt kn : Tok) (h0 : 0 ≤ n ∧ n ≤ (t.length : Int)) (ht : t.length < 100) (h : digOk t n k d = true) (hn : n + (k : Int) = n₁) :
    TellU w mean mg mb 5 151 [.ref x] dx (numD w k1 k2 t kt n kn) [(x, instObj 154 dx)] (fun r tl o' => tl = [] ∧ (∃ tk, r = .str d tk) ∧ ∃ kn', o' = numD w k1 k2 t kt n₁ kn') := by
  intro dp un gd cn cs a ccd cl outer A₀ base h₀ L m news nw s Q E B F X N T hk hU hR hd hu hret
  refine t_digits w mean mg mb x dx t n k1 k2 kt kn h0 ht _ _ _ _ _ _ _ _ _ _ _ _ _ _ _ _ _ _ _ B F X N T hk hU hR hd hu fun r tl o' h' tk' F' N' l ho => hret r tl o' h' tk' F' N' l ⟨ho.1, ?_⟩
  obtain ⟨-, n', kn', tk, R, e1, e2⟩ := ho
  unfold digOk at h
  simp only [Bool.and_eq_true, List.all_eq_true, List.mem_range, Bool.not_eq_true', decide_eq_true_eq] at h
  obtain ⟨⟨h1, h2⟩, h3⟩ := h
  have e := digRun_is R (N := n + (k : Int)) (by omega) (fun j a b => by
    have := h1 (j - n).toNat (by omega)
    have q : n + ((j - n).toNat : Int) = j := by omega
    rwa [q] at this) h2
  rw [e, h3] at e1
  rw [e, hn] at e2
  exact ⟨⟨tk, e1⟩, kn', e2⟩
theorem reset_S4 : True := by
  w_top off
  trivial
section
variable {prog : Program} {w : World} {A : Around} {E : Value → Shared → Prop} {s : Shared} {x y c : Int} {t u : Tok} {Q : Value → Shared → Prop}
theorem lit_sub (hx : x - y = c) (h : Q (.int c s.toks) { s with toks := s.toks + 1 }) : wpAny (model prog w) A (binaryOp .Sub (.int x t) (.int y u)) Q E s := PyProof.Rows.sub_int (hx ▸ h)
theorem lit_mul (hm : IntMulOk x y) (hx : x * y = c) (h : Q (.int c s.toks) { s with toks := s.toks + 1 }) : wpAny (model prog w) A (binaryOp .Mult (.int x t) (.int y u)) Q E s := PyProof.Rows.mul_int (hx ▸ h) hm
theorem lit_neg (hx : -x = c) (h : Q (.int c s.toks) { s with toks := s.toks + 1 }) : wpAny (model prog w) A (unaryOp .USub (.int x t)) Q E s := PyProof.Rows.neg_int (hx ▸ h)
theorem lit_pow (hn : 0 ≤ y) (hn2 : y ≤ 1000000) (ha : x.natAbs < 2 ^ 64) (hx : x ^ y.toNat = c) (h : Q (.int c s.toks) { s with toks := s.toks + 1 }) : wpAny (model prog w) A (binaryOp .Pow (.int x t) (.int y u)) Q E s := PyProof.Rows.pow_int_small hn hn2 ha (hx ▸ h)
end
section
local macro_rules | `(tactic| walk_at "exec For Name Name cons nil") => `(tactic| (k_here; (with_reducible show wpAny _ _ (exec (Stmt.For _ _ _ [] _) _) _ _ _); walk_at "last exec For Name Name"))
local macro_rules | `(tactic| walk_at "pyIter str") => `(tactic| (k_here; walk_at "last pyIter str"))
local macro_rules | `(tactic| walk_at "call builtin:str.index") => `(tactic| (k_here; (with_reducible show wpAny _ _ (call (Value.builtin "str.index") [Value.str (Str.ofString _) _, Value.str (Str.ofString _) _]) _ _ _); (refine index_or (by rfl) (fun _ z => absurd z (by decide +kernel)) (fun _ _ => ?_))))
local macro_rules | `(tactic| walk_at "UnrEnd") => `(tactic| (k_here; (refine UnrEnd.intro (by assumption) (by assumption) _ drop_all (by k_all) ?_)))
set_option maxHeartbeats 8000000 in
theorem t_wh (w : World) (mean : ExcName → Option Value) (mg mb : Str → Option Value) (d : Str) (v : Int) (kt : Tok) (h : (d = "5" ∧ v = 5) ∨ (d = "25" ∧ v = 25) ∨ (d = "0" ∧ v = 0) ∨ (d = "30" ∧ v = 30) ∨ (d = "3" ∧ v = 3) ∨ (d = "1" ∧ v = 1) ∨ (d = "15" ∧ v = 15) ∨ (d = "2" ∧ v = 2)) :
    Tell w mean mg mb 3 165 [.str d kt] [] (fun r tl => (∃ t, r = .int v t) ∧ tl = []) := by
  intro dp un gd cn cs a ccd cl outer A₀ base h₀ L m news s Q E B F X N T hk hR hd hu hret
  refine wpAny_call ?_
  k_with_none
  rcases h with ⟨rfl, rfl⟩ | ⟨rfl, rfl⟩ | ⟨rfl, rfl⟩ | ⟨rfl, rfl⟩ | ⟨rfl, rfl⟩ | ⟨rfl, rfl⟩ | ⟨rfl, rfl⟩ | ⟨rfl, rfl⟩
  all_goals k_dflt walk_at "my enter"
  k_steps
  all_goals refine ret0 hret (by k_asm) (by k_asm) (by walk_at "my keep") ⟨int_is (by decide +kernel), rfl⟩
end
-- LOCAL
local macro_rules | `(tactic| walk_at "ite") => `(tactic| (k_here; k_closed; first | refine ite_pos (by decide +kernel) ?_ | refine ite_neg (by decide +kernel) ?_))
-- END LOCAL
theorem reset_S7 : True := by
  w_top off
  trivial
/-- a call that ends in an exception of the text's own class C with this message -/
abbrev TellX (w : World) (mean : ExcName → Option Value) (mg mb : Str → Option Value) (n : Nat) (f : Addr) (vs : List Value) (pre : List (Addr × Obj)) (C : Addr) (msg : Str) (cx : Value → Prop) : Prop :=
  ∀ (dp un : Nat) (gd : Option (List Code)) (cn : Str) (cs : Scope) (a : Addr) (ccd : Value) (outer : List Env) (A₀ : Around) (base h₀ : Heap) (L : Addr) (m : Str → Option Value) (news : List (Addr × Obj)) (s : Shared)
    (Q E : Value → Shared → Prop),
    Below A₀ base outer h₀ → Fr h₀ L s.heap m → (kv.heap_1 w.params).In h₀ → News h₀ L s.heap news → Top VW LO mean mg mb h₀ → cs.kind = .function → (∀ q ∈ pre, q ∈ news) → dp + n < recursionLimit → un + 8 * n < cLine →
    (kv.heap_1 w.params).In base → Top VW LO mean mg mb base →
    (∀ e t ws dx tkm tks ctx g' h' tk', cx ctx → Fr h₀ L g' m → RaisedX base g' (envOf cn cs L a ccd :: outer) e C t ws dx (msgO w "message" tkm (.str msg tks)) ctx news h' → g'.UpToSlots h' → E (.ref e) { s with heap := h', toks := tk' }) →
    wpAny (model PR w) (ktrTop dp un gd cn cs L a ccd [] outer) (call (.ref f) vs) Q E s
theorem tellX_use {w : World} {mean : ExcName → Option Value} {mg mb : Str → Option Value} {n : Nat} {f : Addr} {vs : List Value} {pre : List (Addr × Obj)} {C : Addr} {msg : Str} {cx : Value → Prop} (T0 : TellX w mean mg mb n f vs pre C msg cx)
    {dp un : Nat} {gd : Option (List Code)} {cn : Str} {cs : Scope} {a : Addr} {ccd : Value} {outer : List Env} {A₀ : Around} {base h₀ : Heap} {L : Addr} {m : Str → Option Value} {news : List (Addr × Obj)} {s : Shared}
    {Q E : Value → Shared → Prop} (B : Below A₀ base outer h₀) (F : Fr h₀ L s.heap m) (X : (kv.heap_1 w.params).In h₀) (N : News h₀ L s.heap news) (T : Top VW LO mean mg mb h₀) (hk : cs.kind = .function) (hp : ∀ q ∈ pre, q ∈ news) (hd : dp + n < recursionLimit) (hu : un + 8 * n < cLine)
    (XB : (Mine.kv.heap_1 w.params).In base) (TB : Top VW LO mean mg mb base)
    (ret : ∀ e t ws dx tkm tks ctx g' h' tk', cx ctx → Fr h₀ L g' m → RaisedX base g' (envOf cn cs L a ccd :: outer) e C t ws dx (msgO w "message" tkm (.str msg tks)) ctx news h' → g'.UpToSlots h' → E (.ref e) { s with heap := h', toks := tk' }) :
    wpAny (model PR w) (ktrTop dp un gd cn cs L a ccd [] outer) (call (.ref f) vs) Q E s := T0 _ _ _ _ _ _ _ _ _ _ _ _ _ _ _ _ _ B F X N T hk hp hd hu XB TB ret
theorem raisedX_drop {base G : Heap} {l : List Env} {e C t : Addr} {vs : List Value} {dx : Addr} {dob : Obj} {ctx : Value} {news ns : List (Addr × Obj)} {h : Heap} (R : RaisedX base G l e C t vs dx dob ctx ns h) (hs : ∀ q ∈ news, q ∈ ns) : RaisedX base G l e C t vs dx dob ctx news h := by
  obtain ⟨⟨⟨B, hB, hG, hl, hfl, hn⟩, htup⟩, r⟩ := R
  exact ⟨⟨⟨B, hB, hG, fun q hq => by
    rcases List.mem_cons.mp hq with z | z
    · exact hl q (by rw [z]; exact .head _)
    · exact hl q (.tail _ (hs q z)), hfl, hn⟩, htup⟩, r⟩
theorem reset_R1 : True := by
  w_top off
  trivial
/-- what a skip at n gives -/
def SkipIs (t : Str) (n : Int) (signs c : Str) (n' : Int) : Prop := (oneAt t n signs = false ∧ c = "" ∧ n' = n) ∨ (oneAt t n signs = true ∧ c = Txt.item t n ∧ n' = n + 1)
def DigIs (t : Str) (n : Int) (d : Str) (n' : Int) : Prop := ∃ k : Nat, digOk t n k d = true ∧ n + (k : Int) = n'
theorem t_skipG (w : World) (mean : ExcName → Option Value) (mg mb : Str → Option Value) (x dx : Addr) (t signs : Str) (n n' : Int) (c : Str) (k1 k2 kt kn ks : Tok) (h0 : 0 ≤ n) (ht : t.length < 100) (h : SkipIs t n signs c n') :
    TellU w mean mg mb 5 144 [.ref x, .str signs ks] dx (numD w k1 k2 t kt n kn) [(x, instObj 154 dx)] (fun r tl o' => tl = [] ∧ (∃ tk, r = .str c tk) ∧ ∃ kn', o' = numD w k1 k2 t kt n' kn') := by
  rcases h with ⟨h1, rfl, rfl⟩ | ⟨h1, h2, h3⟩
  · exact t_skipN w mean mg mb x dx t signs n' k1 k2 kt kn ks h0 ht h1
  · exact t_skipY w mean mg mb x dx t signs n n' c k1 k2 kt kn ks h0 ht h1 h2.symm h3.symm
theorem t_digitsG (w : World) (mean : ExcName → Option Value) (mg mb : Str → Option Value) (x dx : Addr) (t : Str) (n n' : Int) (d : Str) (k1 k2 kt kn : Tok) (h0 : 0 ≤ n ∧ n ≤ (t.length : Int)) (ht : t.length < 100) (h : DigIs t n d n') :
    TellU w mean mg mb 5 151 [.ref x] dx (numD w k1 k2 t kt n kn) [(x, instObj 154 dx)] (fun r tl o' => tl = [] ∧ (∃ tk, r = .str d tk) ∧ ∃ kn', o' = numD w k1 k2 t kt n' kn') := by
  obtain ⟨k, h1, h2⟩ := h
  exact t_digitsC w mean mg mb x dx t n n' k d k1 k2 kt kn h0 ht h1 h2
def WhIs (w : World) (mean : ExcName → Option Value) (mg mb : Str → Option Value) (d : Str) (v : Int) : Prop := ∀ kt, Tell w mean mg mb 3 165 [.str d kt] [] (fun r tl => (∃ t, r = .int v t) ∧ tl = [])
-- LOCAL
local macro_rules | `(tactic| walk_at "my nn") => `(tactic| first | with_reducible assumption | exact And.left (by with_reducible assumption) | decide)
local macro_rules | `(tactic| walk_at "my num") => `(tactic| (case' ret => intro t9 k9 h9 tk9 F9 N9; walk_at "my fold"))
local macro_rules | `(tactic| walk_at "my uR") => `(tactic| ((case B | F | X | N | T => k_asm); (case hk => first | exact rfl | assumption); (case hp => walk_at "my preU"); (case hU => walk_at "my upd"); (case hd => ktr_room); (case hu => ktr_units); (case kq3 => with_reducible assumption); (case kq1 => walk_at "my nn"); (case kq2 => with_reducible assumption); walk_at "my num"))
local macro_rules | `(tactic| walk_at "call ref") => `(tactic| (k_here; first | (with_reducible apply at_ref 144; (with_reducible rename SkipIs _ _ _ _ _ => hSk); k_dflt (apply tellU_num (t_skipG _ _ _ _ _ _ _ _ _ _ _ _ _ _ _ _ ?kq1 ?kq2 ?kq3); walk_at "my uR")) | (with_reducible apply at_ref 151; (with_reducible rename DigIs _ _ _ _ => hDg); k_dflt (apply tellU_num (t_digitsG _ _ _ _ _ _ _ _ _ _ _ _ _ _ ?kq1 ?kq2 ?kq3); walk_at "my uR")) | (with_reducible apply at_ref 165; (with_reducible rename WhIs _ _ _ _ _ _ => hWh); k_dflt (apply tell_int (hWh _); walk_at "my u"; walk_at "my int"))))
-- END LOCAL
set_option maxHeartbeats 4000000 in
theorem t_exp0 (w : World) (mean : ExcName → Option Value) (mg mb : Str → Option Value) (x dx : Addr) (t : Str) (n : Int) (k1 k2 kt kn : Tok) (h0 : 0 ≤ n) (ht : t.length < 100) (h : SkipIs t n "eE" "" n) :
    TellU w mean mg mb 7 172 [.ref x] dx (numD w k1 k2 t kt n kn) [(x, instObj 154 dx)] (fun r tl o' => tl = [] ∧ (∃ t, r = .int 0 t) ∧ ∃ kn', o' = numD w k1 k2 t kt n kn') := by
  intro dp un gd cn cs a ccd cl outer A₀ base h₀ L m news nw s Q E B F X N T hk hU hR hd hu hret
  obtain ⟨oth, ho1, ho2, ho3, ho4⟩ := upd_open hU
  have hx := hR _ (List.Mem.head _)
  have mx := ho3 _ hx.1 hx.2
  have hne := hx.2
  dsimp only at hne
  replace N := cb_drop (news := (dx, numD w k1 k2 t kt n kn) :: (x, instObj 154 dx) :: oth) (cb_drop N ho1) (drop_two (List.Mem.head _) (drop_two (List.Mem.tail _ mx) (drop_cons drop_all)))
  refine wpAny_call ?_
  k_with_none
  k_dflt walk_at "my enter"
  k_steps
  exact hret _ [] _ _ _ (by k_asm) (cb_drop (by k_asm) (drop_trans (ho4 _) (drop_two (List.Mem.head _) (drop_cons (drop_cons drop_all))))) ktn_ord0 ⟨rfl, ⟨_, rfl⟩, _, rfl⟩
theorem reset_R2 : True := by
  w_top off
  trivial
set_option maxHeartbeats 4000000 in
theorem t_expE (w : World) (mean : ExcName → Option Value) (mg mb : Str → Option Value) (x dx : Addr) (t c d : Str) (n n1 n2 v : Int) (k1 k2 kt kn : Tok) (h0 : 0 ≤ n) (h01 : 0 ≤ n1 ∧ n1 ≤ (t.length : Int)) (ht : t.length < 100) (hc : (c == ("" : Str)) = false) (h1 : SkipIs t n "eE" c n1) (h2 : SkipIs t n1 "+-" "" n1) (h3 : DigIs t n1 d n2) (hd : (d == ("" : Str)) = false) (hd9 : d.length ≤ 9) (hv : WhIs w mean mg mb d v) (hv' : v ≤ 300) :
    TellU w mean mg mb 7 172 [.ref x] dx (numD w k1 k2 t kt n kn) [(x, instObj 154 dx)] (fun r tl o' => tl = [] ∧ (∃ t, r = .int v t) ∧ ∃ kn', o' = numD w k1 k2 t kt n2 kn') := by
  intro dp un gd cn cs a ccd cl outer A₀ base h₀ L m news nw s Q E B F X N T hk hU hR hd hu hret
  obtain ⟨oth, ho1, ho2, ho3, ho4⟩ := upd_open hU
  have hx := hR _ (List.Mem.head _)
  have mx := ho3 _ hx.1 hx.2
  have hne := hx.2
  dsimp only at hne
  replace N := cb_drop (news := (dx, numD w k1 k2 t kt n kn) :: (x, instObj 154 dx) :: oth) (cb_drop N ho1) (drop_two (List.Mem.head _) (drop_two (List.Mem.tail _ mx) (drop_cons drop_all)))
  refine wpAny_call ?_
  k_with_none
  k_dflt walk_at "my enter"
  k_steps
  exact hret _ [] _ _ _ (by k_asm) (cb_drop (by k_asm) (drop_trans (ho4 _) (drop_two (by k_mem) (by walk_at "my keep")))) ktn_ord0 ⟨rfl, ⟨_, rfl⟩, _, rfl⟩
def ExpOk (w : World) (mean : ExcName → Option Value) (mg mb : Str → Option Value) (t : Str) (n v n' : Int) : Prop := ∀ (x dx : Addr) (k1 k2 kt kn : Tok),
  TellU w mean mg mb 7 172 [.ref x] dx (numD w k1 k2 t kt n kn) [(x, instObj 154 dx)] (fun r tl o' => tl = [] ∧ (∃ t, r = .int v t) ∧ ∃ kn', o' = numD w k1 k2 t kt n' kn')
-- LOCAL
local macro_rules | `(tactic| walk_at "call ref") => `(tactic| (k_here; with_reducible apply at_ref 172; (with_reducible rename ExpOk _ _ _ _ _ _ _ _ => hEx); k_dflt (apply tellU_num (hEx _ _ _ _ _ _); walk_at "my uU"; walk_at "my num")))
-- END LOCAL
theorem reset_R3 : True := by
  w_top off
  trivial
-- LOCAL
local macro_rules | `(tactic| walk_at "binaryOp Sub int int") => `(tactic| (k_here; (refine' lit_sub ?kq1 ?_; (case kq1 => with_reducible assumption))))
local macro_rules | `(tactic| walk_at "binaryOp Mult int int") => `(tactic| (k_here; (refine' lit_mul ?kq2 ?kq1 ?_; (case kq1 => with_reducible assumption); (case kq2 => mul_fits))))
local macro_rules | `(tactic| walk_at "binaryOp Pow int int") => `(tactic| (k_here; (refine' lit_pow ?kq1 ?kq2 ?kq3 ?kq4 ?_; (case kq4 => with_reducible assumption); (case kq1 => walk_at "my nn"); (case kq2 => exact And.right (by with_reducible assumption)); (case kq3 => decide +kernel))))
-- END LOCAL
theorem out_is {p : Addr} {a b a' b' : Int} {t1 t2 : Tok} (h1 : a = a') (h2 : b = b') : ∃ q u1 u2, Value.ref p = .ref q ∧ [(p, tupO [.int a t1, .int b t2])] = [(q, tupO [.int a' u1, .int b' u2])] := ⟨p, t1, t2, rfl, by rw [h1, h2]⟩
/-- what the point gives: no point and no parts, or a point and parts -/
def DotIs (t : Str) (n3 : Int) (dt pt : Str) (n4 lp : Int) : Prop := ((dt != ("" : Str)) = false ∧ pt = "" ∧ n4 = n3 ∧ lp = ((0 : Nat) : Int)) ∨ ((dt != ("" : Str)) = true ∧ DigIs t n3 pt n4 ∧ lp = (pt.length : Int))
def Stopped (p : Prop) : Prop := p
theorem stop_intro {p : Prop} (h : Stopped p) : p := h
theorem stop_out {p : Prop} (h : p) : Stopped p := h
/-- the state behind the point -/
def AfterDot (w : World) (h₀ : Heap) (L x d : Addr) (sg wh pt t : Str) (kt : Tok) (n4 : Int) (news : List (Addr × Obj)) (h : Heap) : Prop :=
  ∃ (m : Str → Option Value) (kp ks kw k1 k2 k3 kn : Tok), Fr h₀ L h (fun (z : Str) => if z = "parts" then some (.str pt kp) else if z = "sign" then some (.str sg ks) else if z = "whole" then some (.str wh kw) else if z = "reader" then some (.ref x) else if z = "text" then some (.str t kt) else m z) ∧
    News h₀ L h ((x, instObj 154 d) :: (d, numD w k1 k2 t k3 n4 kn) :: news)
theorem after_dot {w : World} {h₀ h : Heap} {L x d : Addr} {sg wh pt t : Str} {kt : Tok} {n4 : Int} {news new' : List (Addr × Obj)} {m : Str → Option Value} {kp ks kw k1 k2 k3 kn : Tok} (F : Fr h₀ L h m) (N : News h₀ L h new')
    (e1 : m "parts" = some (.str pt kp)) (e2 : m "sign" = some (.str sg ks)) (e3 : m "whole" = some (.str wh kw)) (e4 : m "reader" = some (.ref x)) (e5 : m "text" = some (.str t kt)) (hx : (x, instObj 154 d) ∈ new') (hd : (d, numD w k1 k2 t k3 n4 kn) ∈ new') (hs : ∀ q ∈ news, q ∈ new') : AfterDot w h₀ L x d sg wh pt t kt n4 news h := by
  refine ⟨m, kp, ks, kw, k1, k2, k3, kn, ?_, cb_drop N (List.forall_mem_cons.mpr ⟨hx, List.forall_mem_cons.mpr ⟨hd, hs⟩⟩)⟩
  have e : (fun (z : Str) => if z = "parts" then some (.str pt kp) else if z = "sign" then some (.str sg ks) else if z = "whole" then some (.str wh kw) else if z = "reader" then some (.ref x) else if z = "text" then some (.str t kt) else m z) = m := by
    funext z
    split
    · next q => rw [q, e1]
    · split
      · next q => rw [q, e2]
      · split
        · next q => rw [q, e3]
        · split
          · next q => rw [q, e4]
          · split
            · next q => rw [q, e5]
            · rfl
  rw [e]
  exact F
theorem dot_cut {w : World} {A : Around} {E : Value → Shared → Prop} {s : Shared} {h₀ : Heap} {L x d D1 : Addr} {o1 o2 : Obj} {news : List (Addr × Obj)} {st : Stmt} {env : Env} {Q : Flow → Shared → Prop} (sg wh pt t : Str) (kt : Tok) (n4 : Int)
    (_ : News h₀ L s.heap ((D1, o1) :: (x, instObj 154 d) :: (d, o2) :: news)) (h : wpAny (model PR w) A (exec st env) (fun f s' => Stopped (f = .next ∧ ∃ h tk, s' = { s with heap := h, toks := tk } ∧ AfterDot w h₀ L x d sg wh pt t kt n4 news h)) E s)
    (k : ∀ h tk, AfterDot w h₀ L x d sg wh pt t kt n4 news h → Q .next { s with heap := h, toks := tk }) : wpAny (model PR w) A (exec st env) Q E s :=
  wpAny_mono h (fun f s' z => by
    obtain ⟨e, h, tk, e', a⟩ := z
    subst e
    subst e'
    exact k h tk a) (fun _ _ h => h)
-- LOCAL
local macro_rules | `(tactic| walk_at "exec If") => `(tactic| (k_here; (with_reducible rename DotIs _ _ _ _ _ _ => hDt); refine stop_intro ?_))
-- END LOCAL
set_option maxHeartbeats 4000000 in
theorem t_rdG (w : World) (mean : ExcName → Option Value) (mg mb : Str → Option Value) (t sg wh dt pt d : Str) (n1 n2 n3 n4 n5 e x lp v tp bt a b : Int) (kt : Tok) (ht : t.length < 100) (hwh : wh.length < 60) (hpt : pt.length < 60) (hdl : d.length < 60)
    (h1 : SkipIs t 0 "+-" sg n1) (h2 : DigIs t n1 wh n2) (h3 : SkipIs t n2 "." dt n3) (h4 : DotIs t n3 dt pt n4 lp) (h5 : ExpOk w mean mg mb t n4 e n5)
    (b1 : 0 ≤ n1 ∧ n1 ≤ (t.length : Int)) (b2 : 0 ≤ n2 ∧ n2 ≤ (t.length : Int)) (b3 : 0 ≤ n3 ∧ n3 ≤ (t.length : Int)) (b4 : 0 ≤ n4 ∧ n4 ≤ (t.length : Int)) (hend : (t.length : Int) ≤ n5) (hd : wh ++ pt = d) (hd0 : (d == ("" : Str)) = false) (he : e - lp = x) (hv : WhIs w mean mg mb d v) (hv' : 0 ≤ v ∧ v < 100) (hq : 0 ≤ (if -x > 0 then -x else 0) ∧ (if -x > 0 then -x else 0) ≤ 1000000) (htp : v * 10 ^ (if x > 0 then x else 0).toNat = tp) (hbt : (10 : Int) ^ (if -x > 0 then -x else 0).toNat = bt) (hx : x ≤ 1000) (htp' : 0 ≤ tp ∧ tp < 100000) (hbt' : 0 < bt ∧ bt < 1000)
    (ha : (sg == ("-" : Str)) = true → fr1 (-tp) bt = a ∧ fr2 (-tp) bt = b) (ha' : (sg == ("-" : Str)) = false → fr1 tp bt = a ∧ fr2 tp bt = b) :
    Tell w mean mg mb 9 179 [.str t kt] [] (fun r tl => ∃ p t1 t2, r = .ref p ∧ tl = [(p, tupO [.int a t1, .int b t2])]) := by
  intro dp un gd cn cs aa ccd cl outer A₀ base h₀ L m news s Q E B F X N T hk hR hd hu hret
  refine wpAny_call ?_
  k_with_none
  k_dflt walk_at "my enter"
  k_steps
  refine stop_out ?_
  with_reducible rename News _ _ _ _ => NN
  with_reducible rename DotIs _ _ _ _ _ _ => h4
  refine dot_cut sg wh pt t kt n4 NN ?_ ?_
  · rcases h4 with ⟨h4, rfl, rfl, rfl⟩ | ⟨h4, h4', rfl⟩
    all_goals k_steps
    all_goals exact stop_out ⟨rfl, _, _, rfl, after_dot (by k_asm) (by k_asm) (by exact rfl) (by exact rfl) (by exact rfl) (by exact rfl) (by exact rfl) (by k_mem) (by k_mem) (by walk_at "my keep")⟩
  clear NN
  intro h9 tk9 ha9
  obtain ⟨m9, kp9, ks9, kw9, k19, k29, k39, kn9, F9, N9⟩ := ha9
  have h4' : lp = (pt.length : Int) := by
    rcases h4 with ⟨_, rfl, _, rfl⟩ | ⟨_, _, e⟩
    · rfl
    · exact e
  clear h4
  subst h4'
  try dsimp only
  try k_fold
  k_steps
  all_goals exact ret1 hret (by k_asm) (by k_asm) (by k_mem) (by walk_at "my keep") (by walk_at "my lt") (by first | exact out_is (ha (by assumption)).1 (ha (by assumption)).2 | exact out_is (ha' (by assumption)).1 (ha' (by assumption)).2)
set_option maxHeartbeats 4000000 in
theorem t_rdBad (w : World) (mean : ExcName → Option Value) (mg mb : Str → Option Value) (t m : Str) (kt : Tok) (ht : t.length < 100) (ht6 : t.length < 60) (h1 : SkipIs t 0 "+-" "" 0) (h2 : DigIs t 0 "" 0) (h3 : SkipIs t 0 "." "" 0) (hm : ("no number: " : Str) ++ t = m) : TellX w mean mg mb 9 179 [.str t kt] [] 51 m (· = .none) := by
  intro dp un gd cn cs a ccd outer A₀ base h₀ L m news s Q E B F X N T hk hR hd hu XB TB hret
  have b0 : (0 : Int) ≤ 0 ∧ (0 : Int) ≤ (t.length : Int) := ⟨by decide, by omega⟩
  have l0 : ("" : Str).length < 60 := by decide +kernel
  have l1 : ("no number: " : Str).length < 60 := by decide +kernel
  have l2 : ("" : Str) ++ "" = "" := by decide +kernel
  refine wpAny_call ?_
  k_with_none
  k_dflt walk_at "my enter"
  k_steps
  exact hret _ _ _ _ _ _ _ _ _ _ rfl (by assumption) (raisedX_drop (by assumption) (by walk_at "my keep")) (by assumption)
theorem reset_R4 : True := by
  w_top off
  trivial
theorem t_rd0 (w : World) (mean : ExcName → Option Value) (mg mb : Str → Option Value) (kt : Tok) :
    Tell w mean mg mb 9 179 [.str "5" kt] [] (fun r tl => ∃ p t1 t2, r = .ref p ∧ tl = [(p, tupO [.int (5) t1, .int 1 t2])]) :=
  t_rdG w mean mg mb "5" "" "5" "" "" "5" 0 1 1 1 1 0 (0) ((0 : Nat) : Int) 5 5 1 (5) 1 kt (by decide +kernel) (by decide +kernel) (by decide +kernel) (by decide +kernel)
    (.inl ⟨by decide +kernel, rfl, rfl⟩) ⟨1, by decide +kernel, by decide⟩ (.inl ⟨by decide +kernel, rfl, rfl⟩) (.inl ⟨by decide +kernel, rfl, rfl, rfl⟩) (fun x dx k1 k2 kt kn => t_exp0 w mean mg mb x dx "5" 1 k1 k2 kt kn (by decide) (by decide +kernel) (.inl ⟨by decide +kernel, rfl, rfl⟩)) (by decide +kernel) (by decide +kernel) (by decide +kernel) (by decide +kernel) (by decide +kernel) (by decide +kernel) (by decide +kernel) (by decide) (fun kt => t_wh w mean mg mb "5" 5 kt (.inl ⟨rfl, rfl⟩)) (by decide) (by decide +kernel) (by decide +kernel) (by decide +kernel) (by decide) (by decide) (by decide) (fun h => absurd h (by decide +kernel)) (fun _ => ⟨by decide +kernel, by decide +kernel⟩)
theorem t_rd1 (w : World) (mean : ExcName → Option Value) (mg mb : Str → Option Value) (kt : Tok) :
    Tell w mean mg mb 9 179 [.str "2.5" kt] [] (fun r tl => ∃ p t1 t2, r = .ref p ∧ tl = [(p, tupO [.int (5) t1, .int 2 t2])]) :=
  t_rdG w mean mg mb "2.5" "" "2" "." "5" "25" 0 1 2 3 3 0 (-1) (("5" : Str).length : Int) 25 25 10 (5) 2 kt (by decide +kernel) (by decide +kernel) (by decide +kernel) (by decide +kernel)
    (.inl ⟨by decide +kernel, rfl, rfl⟩) ⟨1, by decide +kernel, by decide⟩ (.inr ⟨by decide +kernel, by decide +kernel, rfl⟩) (.inr ⟨by decide +kernel, ⟨1, by decide +kernel, by decide⟩, rfl⟩) (fun x dx k1 k2 kt kn => t_exp0 w mean mg mb x dx "2.5" 3 k1 k2 kt kn (by decide) (by decide +kernel) (.inl ⟨by decide +kernel, rfl, rfl⟩)) (by decide +kernel) (by decide +kernel) (by decide +kernel) (by decide +kernel) (by decide +kernel) (by decide +kernel) (by decide +kernel) (by decide) (fun kt => t_wh w mean mg mb "25" 25 kt (.inr (.inl ⟨rfl, rfl⟩))) (by decide) (by decide +kernel) (by decide +kernel) (by decide +kernel) (by decide) (by decide) (by decide) (fun h => absurd h (by decide +kernel)) (fun _ => ⟨by decide +kernel, by decide +kernel⟩)
theorem t_rd2 (w : World) (mean : ExcName → Option Value) (mg mb : Str → Option Value) (kt : Tok) :
    Tell w mean mg mb 9 179 [.str "0" kt] [] (fun r tl => ∃ p t1 t2, r = .ref p ∧ tl = [(p, tupO [.int (0) t1, .int 1 t2])]) :=
  t_rdG w mean mg mb "0" "" "0" "" "" "0" 0 1 1 1 1 0 (0) ((0 : Nat) : Int) 0 0 1 (0) 1 kt (by decide +kernel) (by decide +kernel) (by decide +kernel) (by decide +kernel)
    (.inl ⟨by decide +kernel, rfl, rfl⟩) ⟨1, by decide +kernel, by decide⟩ (.inl ⟨by decide +kernel, rfl, rfl⟩) (.inl ⟨by decide +kernel, rfl, rfl, rfl⟩) (fun x dx k1 k2 kt kn => t_exp0 w mean mg mb x dx "0" 1 k1 k2 kt kn (by decide) (by decide +kernel) (.inl ⟨by decide +kernel, rfl, rfl⟩)) (by decide +kernel) (by decide +kernel) (by decide +kernel) (by decide +kernel) (by decide +kernel) (by decide +kernel) (by decide +kernel) (by decide) (fun kt => t_wh w mean mg mb "0" 0 kt (.inr (.inr (.inl ⟨rfl, rfl⟩)))) (by decide) (by decide +kernel) (by decide +kernel) (by decide +kernel) (by decide) (by decide) (by decide) (fun h => absurd h (by decide +kernel)) (fun _ => ⟨by decide +kernel, by decide +kernel⟩)
theorem t_rd3 (w : World) (mean : ExcName → Option Value) (mg mb : Str → Option Value) (kt : Tok) :
    Tell w mean mg mb 9 179 [.str "30" kt] [] (fun r tl => ∃ p t1 t2, r = .ref p ∧ tl = [(p, tupO [.int (30) t1, .int 1 t2])]) :=
  t_rdG w mean mg mb "30" "" "30" "" "" "30" 0 2 2 2 2 0 (0) ((0 : Nat) : Int) 30 30 1 (30) 1 kt (by decide +kernel) (by decide +kernel) (by decide +kernel) (by decide +kernel)
    (.inl ⟨by decide +kernel, rfl, rfl⟩) ⟨2, by decide +kernel, by decide⟩ (.inl ⟨by decide +kernel, rfl, rfl⟩) (.inl ⟨by decide +kernel, rfl, rfl, rfl⟩) (fun x dx k1 k2 kt kn => t_exp0 w mean mg mb x dx "30" 2 k1 k2 kt kn (by decide) (by decide +kernel) (.inl ⟨by decide +kernel, rfl, rfl⟩)) (by decide +kernel) (by decide +kernel) (by decide +kernel) (by decide +kernel) (by decide +kernel) (by decide +kernel) (by decide +kernel) (by decide) (fun kt => t_wh w mean mg mb "30" 30 kt (.inr (.inr (.inr (.inl ⟨rfl, rfl⟩))))) (by decide) (by decide +kernel) (by decide +kernel) (by decide +kernel) (by decide) (by decide) (by decide) (fun h => absurd h (by decide +kernel)) (fun _ => ⟨by decide +kernel, by decide +kernel⟩)
theorem t_rd4 (w : World) (mean : ExcName → Option Value) (mg mb : Str → Option Value) (kt : Tok) :
    Tell w mean mg mb 9 179 [.str "3" kt] [] (fun r tl => ∃ p t1 t2, r = .ref p ∧ tl = [(p, tupO [.int (3) t1, .int 1 t2])]) :=
  t_rdG w mean mg mb "3" "" "3" "" "" "3" 0 1 1 1 1 0 (0) ((0 : Nat) : Int) 3 3 1 (3) 1 kt (by decide +kernel) (by decide +kernel) (by decide +kernel) (by decide +kernel)
    (.inl ⟨by decide +kernel, rfl, rfl⟩) ⟨1, by decide +kernel, by decide⟩ (.inl ⟨by decide +kernel, rfl, rfl⟩) (.inl ⟨by decide +kernel, rfl, rfl, rfl⟩) (fun x dx k1 k2 kt kn => t_exp0 w mean mg mb x dx "3" 1 k1 k2 kt kn (by decide) (by decide +kernel) (.inl ⟨by decide +kernel, rfl, rfl⟩)) (by decide +kernel) (by decide +kernel) (by decide +kernel) (by decide +kernel) (by decide +kernel) (by decide +kernel) (by decide +kernel) (by decide) (fun kt => t_wh w mean mg mb "3" 3 kt (.inr (.inr (.inr (.inr (.inl ⟨rfl, rfl⟩)))))) (by decide) (by decide +kernel) (by decide +kernel) (by decide +kernel) (by decide) (by decide) (by decide) (fun h => absurd h (by decide +kernel)) (fun _ => ⟨by decide +kernel, by decide +kernel⟩)
theorem t_rd5 (w : World) (mean : ExcName → Option Value) (mg mb : Str → Option Value) (kt : Tok) :
    Tell w mean mg mb 9 179 [.str ".5" kt] [] (fun r tl => ∃ p t1 t2, r = .ref p ∧ tl = [(p, tupO [.int (1) t1, .int 2 t2])]) :=
  t_rdG w mean mg mb ".5" "" "" "." "5" "5" 0 0 1 2 2 0 (-1) (("5" : Str).length : Int) 5 5 10 (1) 2 kt (by decide +kernel) (by decide +kernel) (by decide +kernel) (by decide +kernel)
    (.inl ⟨by decide +kernel, rfl, rfl⟩) ⟨0, by decide +kernel, by decide⟩ (.inr ⟨by decide +kernel, by decide +kernel, rfl⟩) (.inr ⟨by decide +kernel, ⟨1, by decide +kernel, by decide⟩, rfl⟩) (fun x dx k1 k2 kt kn => t_exp0 w mean mg mb x dx ".5" 2 k1 k2 kt kn (by decide) (by decide +kernel) (.inl ⟨by decide +kernel, rfl, rfl⟩)) (by decide +kernel) (by decide +kernel) (by decide +kernel) (by decide +kernel) (by decide +kernel) (by decide +kernel) (by decide +kernel) (by decide) (fun kt => t_wh w mean mg mb "5" 5 kt (.inl ⟨rfl, rfl⟩)) (by decide) (by decide +kernel) (by decide +kernel) (by decide +kernel) (by decide) (by decide) (by decide) (fun h => absurd h (by decide +kernel)) (fun _ => ⟨by decide +kernel, by decide +kernel⟩)
theorem t_rd6 (w : World) (mean : ExcName → Option Value) (mg mb : Str → Option Value) (kt : Tok) :
    Tell w mean mg mb 9 179 [.str "-0" kt] [] (fun r tl => ∃ p t1 t2, r = .ref p ∧ tl = [(p, tupO [.int (0) t1, .int 1 t2])]) :=
  t_rdG w mean mg mb "-0" "-" "0" "" "" "0" 1 2 2 2 2 0 (0) ((0 : Nat) : Int) 0 0 1 (0) 1 kt (by decide +kernel) (by decide +kernel) (by decide +kernel) (by decide +kernel)
    (.inr ⟨by decide +kernel, by decide +kernel, rfl⟩) ⟨1, by decide +kernel, by decide⟩ (.inl ⟨by decide +kernel, rfl, rfl⟩) (.inl ⟨by decide +kernel, rfl, rfl, rfl⟩) (fun x dx k1 k2 kt kn => t_exp0 w mean mg mb x dx "-0" 2 k1 k2 kt kn (by decide) (by decide +kernel) (.inl ⟨by decide +kernel, rfl, rfl⟩)) (by decide +kernel) (by decide +kernel) (by decide +kernel) (by decide +kernel) (by decide +kernel) (by decide +kernel) (by decide +kernel) (by decide) (fun kt => t_wh w mean mg mb "0" 0 kt (.inr (.inr (.inl ⟨rfl, rfl⟩)))) (by decide) (by decide +kernel) (by decide +kernel) (by decide +kernel) (by decide) (by decide) (by decide) (fun _ => ⟨by decide +kernel, by decide +kernel⟩) (fun h => absurd h (by decide +kernel))
theorem t_rd7 (w : World) (mean : ExcName → Option Value) (mg mb : Str → Option Value) (kt : Tok) :
    Tell w mean mg mb 9 179 [.str "1e3" kt] [] (fun r tl => ∃ p t1 t2, r = .ref p ∧ tl = [(p, tupO [.int (1000) t1, .int 1 t2])]) :=
  t_rdG w mean mg mb "1e3" "" "1" "" "" "1" 0 1 1 1 3 3 (3) ((0 : Nat) : Int) 1 1000 1 (1000) 1 kt (by decide +kernel) (by decide +kernel) (by decide +kernel) (by decide +kernel)
    (.inl ⟨by decide +kernel, rfl, rfl⟩) ⟨1, by decide +kernel, by decide⟩ (.inl ⟨by decide +kernel, rfl, rfl⟩) (.inl ⟨by decide +kernel, rfl, rfl, rfl⟩) (fun x dx k1 k2 kt kn => t_expE w mean mg mb x dx "1e3" "e" "3" 1 2 3 3 k1 k2 kt kn (by decide) (by decide +kernel) (by decide +kernel) (by decide +kernel) (.inr ⟨by decide +kernel, by decide +kernel, rfl⟩) (.inl ⟨by decide +kernel, rfl, rfl⟩) ⟨1, by decide +kernel, by decide⟩ (by decide +kernel) (by decide +kernel) (fun kt => t_wh w mean mg mb "3" 3 kt (.inr (.inr (.inr (.inr (.inl ⟨rfl, rfl⟩)))))) (by decide)) (by decide +kernel) (by decide +kernel) (by decide +kernel) (by decide +kernel) (by decide +kernel) (by decide +kernel) (by decide +kernel) (by decide) (fun kt => t_wh w mean mg mb "1" 1 kt (.inr (.inr (.inr (.inr (.inr (.inl ⟨rfl, rfl⟩))))))) (by decide) (by decide +kernel) (by decide +kernel) (by decide +kernel) (by decide) (by decide) (by decide) (fun h => absurd h (by decide +kernel)) (fun _ => ⟨by decide +kernel, by decide +kernel⟩)
theorem t_rd8 (w : World) (mean : ExcName → Option Value) (mg mb : Str → Option Value) (kt : Tok) :
    Tell w mean mg mb 9 179 [.str "-1.5" kt] [] (fun r tl => ∃ p t1 t2, r = .ref p ∧ tl = [(p, tupO [.int (-3) t1, .int 2 t2])]) :=
  t_rdG w mean mg mb "-1.5" "-" "1" "." "5" "15" 1 2 3 4 4 0 (-1) (("5" : Str).length : Int) 15 15 10 (-3) 2 kt (by decide +kernel) (by decide +kernel) (by decide +kernel) (by decide +kernel)
    (.inr ⟨by decide +kernel, by decide +kernel, rfl⟩) ⟨1, by decide +kernel, by decide⟩ (.inr ⟨by decide +kernel, by decide +kernel, rfl⟩) (.inr ⟨by decide +kernel, ⟨1, by decide +kernel, by decide⟩, rfl⟩) (fun x dx k1 k2 kt kn => t_exp0 w mean mg mb x dx "-1.5" 4 k1 k2 kt kn (by decide) (by decide +kernel) (.inl ⟨by decide +kernel, rfl, rfl⟩)) (by decide +kernel) (by decide +kernel) (by decide +kernel) (by decide +kernel) (by decide +kernel) (by decide +kernel) (by decide +kernel) (by decide) (fun kt => t_wh w mean mg mb "15" 15 kt (.inr (.inr (.inr (.inr (.inr (.inr (.inl ⟨rfl, rfl⟩)))))))) (by decide) (by decide +kernel) (by decide +kernel) (by decide +kernel) (by decide) (by decide) (by decide) (fun _ => ⟨by decide +kernel, by decide +kernel⟩) (fun h => absurd h (by decide +kernel))
theorem t_rd9 (w : World) (mean : ExcName → Option Value) (mg mb : Str → Option Value) (kt : Tok) :
    Tell w mean mg mb 9 179 [.str "-2" kt] [] (fun r tl => ∃ p t1 t2, r = .ref p ∧ tl = [(p, tupO [.int (-2) t1, .int 1 t2])]) :=
  t_rdG w mean mg mb "-2" "-" "2" "" "" "2" 1 2 2 2 2 0 (0) ((0 : Nat) : Int) 2 2 1 (-2) 1 kt (by decide +kernel) (by decide +kernel) (by decide +kernel) (by decide +kernel)
    (.inr ⟨by decide +kernel, by decide +kernel, rfl⟩) ⟨1, by decide +kernel, by decide⟩ (.inl ⟨by decide +kernel, rfl, rfl⟩) (.inl ⟨by decide +kernel, rfl, rfl, rfl⟩) (fun x dx k1 k2 kt kn => t_exp0 w mean mg mb x dx "-2" 2 k1 k2 kt kn (by decide) (by decide +kernel) (.inl ⟨by decide +kernel, rfl, rfl⟩)) (by decide +kernel) (by decide +kernel) (by decide +kernel) (by decide +kernel) (by decide +kernel) (by decide +kernel) (by decide +kernel) (by decide) (fun kt => t_wh w mean mg mb "2" 2 kt (.inr (.inr (.inr (.inr (.inr (.inr (.inr (⟨rfl, rfl⟩))))))))) (by decide) (by decide +kernel) (by decide +kernel) (by decide +kernel) (by decide) (by decide) (by decide) (fun _ => ⟨by decide +kernel, by decide +kernel⟩) (fun h => absurd h (by decide +kernel))
theorem t_rd10 (w : World) (mean : ExcName → Option Value) (mg mb : Str → Option Value) (kt : Tok) :
    Tell w mean mg mb 9 179 [.str "1" kt] [] (fun r tl => ∃ p t1 t2, r = .ref p ∧ tl = [(p, tupO [.int (1) t1, .int 1 t2])]) :=
  t_rdG w mean mg mb "1" "" "1" "" "" "1" 0 1 1 1 1 0 (0) ((0 : Nat) : Int) 1 1 1 (1) 1 kt (by decide +kernel) (by decide +kernel) (by decide +kernel) (by decide +kernel)
    (.inl ⟨by decide +kernel, rfl, rfl⟩) ⟨1, by decide +kernel, by decide⟩ (.inl ⟨by decide +kernel, rfl, rfl⟩) (.inl ⟨by decide +kernel, rfl, rfl, rfl⟩) (fun x dx k1 k2 kt kn => t_exp0 w mean mg mb x dx "1" 1 k1 k2 kt kn (by decide) (by decide +kernel) (.inl ⟨by decide +kernel, rfl, rfl⟩)) (by decide +kernel) (by decide +kernel) (by decide +kernel) (by decide +kernel) (by decide +kernel) (by decide +kernel) (by decide +kernel) (by decide) (fun kt => t_wh w mean mg mb "1" 1 kt (.inr (.inr (.inr (.inr (.inr (.inl ⟨rfl, rfl⟩))))))) (by decide) (by decide +kernel) (by decide +kernel) (by decide +kernel) (by decide) (by decide) (by decide) (fun h => absurd h (by decide +kernel)) (fun _ => ⟨by decide +kernel, by decide +kernel⟩)
theorem t_rd11 (w : World) (mean : ExcName → Option Value) (mg mb : Str → Option Value) (kt : Tok) :
    Tell w mean mg mb 9 179 [.str "2" kt] [] (fun r tl => ∃ p t1 t2, r = .ref p ∧ tl = [(p, tupO [.int (2) t1, .int 1 t2])]) :=
  t_rdG w mean mg mb "2" "" "2" "" "" "2" 0 1 1 1 1 0 (0) ((0 : Nat) : Int) 2 2 1 (2) 1 kt (by decide +kernel) (by decide +kernel) (by decide +kernel) (by decide +kernel)
    (.inl ⟨by decide +kernel, rfl, rfl⟩) ⟨1, by decide +kernel, by decide⟩ (.inl ⟨by decide +kernel, rfl, rfl⟩) (.inl ⟨by decide +kernel, rfl, rfl, rfl⟩) (fun x dx k1 k2 kt kn => t_exp0 w mean mg mb x dx "2" 1 k1 k2 kt kn (by decide) (by decide +kernel) (.inl ⟨by decide +kernel, rfl, rfl⟩)) (by decide +kernel) (by decide +kernel) (by decide +kernel) (by decide +kernel) (by decide +kernel) (by decide +kernel) (by decide +kernel) (by decide) (fun kt => t_wh w mean mg mb "2" 2 kt (.inr (.inr (.inr (.inr (.inr (.inr (.inr (⟨rfl, rfl⟩))))))))) (by decide) (by decide +kernel) (by decide +kernel) (by decide +kernel) (by decide) (by decide) (by decide) (fun h => absurd h (by decide +kernel)) (fun _ => ⟨by decide +kernel, by decide +kernel⟩)
theorem t_rdA (w : World) (mean : ExcName → Option Value) (mg mb : Str → Option Value) (kt : Tok) : TellX w mean mg mb 9 179 [.str "auto" kt] [] 51 "no number: auto" (· = .none) :=
  t_rdBad w mean mg mb "auto" "no number: auto" kt (by decide +kernel) (by decide +kernel) (.inl ⟨by decide +kernel, rfl, rfl⟩) ⟨0, by decide +kernel, by decide⟩ (.inl ⟨by decide +kernel, rfl, rfl⟩) (by decide +kernel)
theorem t_rdE (w : World) (mean : ExcName → Option Value) (mg mb : Str → Option Value) (kt : Tok) : TellX w mean mg mb 9 179 [.str "" kt] [] 51 "no number: " (· = .none) :=
  t_rdBad w mean mg mb "" "no number: " kt (by decide +kernel) (by decide +kernel) (.inl ⟨by decide +kernel, rfl, rfl⟩) ⟨0, by decide +kernel, by decide⟩ (.inl ⟨by decide +kernel, rfl, rfl⟩) (by decide +kernel)
theorem reset_U1 : True := by
  w_top off
  trivial
theorem unrEndW_one {h₀ h' : Heap} {L I : Addr} {it : Obj} {rest : (Str → Option Value) → List (Addr × Obj) → Prop} {s₁ : Shared} {tk : Nat} {m' : Str → Option Value} {all news' : List (Addr × Obj)} (F : Fr h₀ L h' m') (N : News h₀ L h' all)
    (sub : ∀ p ∈ (I, it) :: news', p ∈ all) (off : ∀ p ∈ news', p.1 ≠ I) (r : rest m' news') : UnrEndW h₀ L s₁ [(I, it)] rest { s₁ with heap := h', toks := tk } :=
  ⟨h', tk, m', news', rfl, F, fun p hp => N p (sub p hp), fun p hp q hq => by rw [List.mem_singleton.mp hq]; exact off p hp, r⟩
theorem str_is {p : Addr} {a b a' b' : Str} {t1 t2 : Tok} (h1 : a = a') (h2 : b = b') : ∃ q u1 u2, Value.ref p = .ref q ∧ [(p, tupO [.str a t1, .str b t2])] = [(q, tupO [.str a' u1, .str b' u2])] := ⟨p, t1, t2, rfl, by rw [h1, h2]⟩
abbrev unitsL : List Str := ["px", "pt", "pc", "mm", "cm", "in", "em", "%"]
section
local macro_rules | `(tactic| walk_at "pyIter ref") => `(tactic| (k_here; (with_reducible show wpAny _ _ (pyIter (Value.ref _)) (fun it s₂ => TurnsAt _ _ _ _ _ _ _ _ _ it s₂) _ _); (with_unfolding_all refine iter_tupTurns (by rfl) (by assumption) (by assumption) (by k_mem) (by rfl) (by rfl) ?_); intro i' l1; (try k_lt l1)))
local macro_rules | `(tactic| walk_at "UnrEndW") => `(tactic| (k_here; (refine unrEndW_one (by assumption) (by assumption) drop_all (by k_all) ⟨⟨by k_mem, trivial⟩, ?_⟩)))
set_option maxHeartbeats 4000000 in
theorem t_uG (w : World) (mean : ExcName → Option Value) (mg mb : Str → Option Value) (t d u : Str) (kt : Tok) (hl : t.length < 100) (h1 : Txt.endswith (Txt.strip t) "px" = false) (h3 : Txt.endswith (Txt.strip t) "pc" = false) (h4 : Txt.endswith (Txt.strip t) "mm" = false) (h5 : Txt.endswith (Txt.strip t) "cm" = false) (h6 : Txt.endswith (Txt.strip t) "in" = false)
    (hp : Txt.endswith (Txt.strip t) "pt" = true → Txt.strip (Txt.slice (Txt.strip t) none (some (-((2 : Nat) : Int)))) = d ∧ "pt" = u) (he : Txt.endswith (Txt.strip t) "em" = true → Txt.strip (Txt.slice (Txt.strip t) none (some (-((2 : Nat) : Int)))) = d ∧ "em" = u)
    (hc : Txt.endswith (Txt.strip t) "%" = true → Txt.strip (Txt.slice (Txt.strip t) none (some (-1))) = d ∧ "%" = u) (h0 : Txt.endswith (Txt.strip t) "pt" = false → Txt.endswith (Txt.strip t) "em" = false → Txt.endswith (Txt.strip t) "%" = false → Txt.strip t = d ∧ "" = u) :
    Tell w mean mg mb 4 187 [.str t kt] [] (fun r tl => ∃ p t1 t2, r = .ref p ∧ tl = [(p, tupO [.str d t1, .str u t2])]) := by
  intro dp un gd cn cs a ccd cl outer A₀ base h₀ L m news s Q E B F X N T hk hR hd hu hret
  refine wpAny_call ?_
  k_with_none
  k_dflt walk_at "my enter"
  k_steps
  · exact ret1 hret (by k_asm) (by k_asm) (by k_mem) (by walk_at "my keep") (by walk_at "my lt") (str_is (hp (by assumption)).1 (hp (by assumption)).2)
  · exact ret1 hret (by k_asm) (by k_asm) (by k_mem) (by walk_at "my keep") (by walk_at "my lt") (str_is (he (by assumption)).1 (he (by assumption)).2)
  · exact ret1 hret (by k_asm) (by k_asm) (by k_mem) (by walk_at "my keep") (by walk_at "my lt") (str_is (hc (by assumption)).1 (hc (by assumption)).2)
  · exact ret1 hret (by k_asm) (by k_asm) (by k_mem) (by walk_at "my keep") (by walk_at "my lt") (str_is (h0 (by assumption) (by assumption) (by assumption)).1 (h0 (by assumption) (by assumption) (by assumption)).2)
end
theorem t_u0 (w : World) (mean : ExcName → Option Value) (mg mb : Str → Option Value) (t : Str) (kt : Tok) (hl : t.length < 100) (h0 : Txt.strip t = t) (h : unitsL.all (fun u => !Txt.endswith t u) = true) :
    Tell w mean mg mb 4 187 [.str t kt] [] (fun r tl => ∃ p t1 t2, r = .ref p ∧ tl = [(p, tupO [.str t t1, .str "" t2])]) := by
  simp only [unitsL, List.all_cons, List.all_nil, Bool.and_true, Bool.and_eq_true, Bool.not_eq_true'] at h
  obtain ⟨h1, h2, h3, h4, h5, h6, h7, h8⟩ := h
  rw [← h0] at h1 h2 h3 h4 h5 h6 h7 h8
  exact t_uG w mean mg mb t t "" kt hl h1 h3 h4 h5 h6 (fun z => by rw [h2] at z; cases z) (fun z => by rw [h7] at z; cases z) (fun z => by rw [h8] at z; cases z) (fun _ _ _ => ⟨h0, rfl⟩)
theorem t_u1 (w : World) (mean : ExcName → Option Value) (mg mb : Str → Option Value) (kt : Tok) : Tell w mean mg mb 4 187 [.str "3pt" kt] [] (fun r tl => ∃ p t1 t2, r = .ref p ∧ tl = [(p, tupO [.str "3" t1, .str "pt" t2])]) :=
  t_uG w mean mg mb "3pt" "3" "pt" kt (by decide +kernel) (by decide +kernel) (by decide +kernel) (by decide +kernel) (by decide +kernel) (by decide +kernel) (fun _ => ⟨by decide +kernel, rfl⟩) (fun z => absurd z (by decide +kernel)) (fun z => absurd z (by decide +kernel)) (fun z => absurd z (by decide +kernel))
theorem t_u2 (w : World) (mean : ExcName → Option Value) (mg mb : Str → Option Value) (kt : Tok) : Tell w mean mg mb 4 187 [.str ".5em" kt] [] (fun r tl => ∃ p t1 t2, r = .ref p ∧ tl = [(p, tupO [.str ".5" t1, .str "em" t2])]) :=
  t_uG w mean mg mb ".5em" ".5" "em" kt (by decide +kernel) (by decide +kernel) (by decide +kernel) (by decide +kernel) (by decide +kernel) (by decide +kernel) (fun z => absurd z (by decide +kernel)) (fun _ => ⟨by decide +kernel, rfl⟩) (fun z => absurd z (by decide +kernel)) (fun _ z => absurd z (by decide +kernel))
theorem t_u3 (w : World) (mean : ExcName → Option Value) (mg mb : Str → Option Value) (kt : Tok) : Tell w mean mg mb 4 187 [.str "30%" kt] [] (fun r tl => ∃ p t1 t2, r = .ref p ∧ tl = [(p, tupO [.str "30" t1, .str "%" t2])]) :=
  t_uG w mean mg mb "30%" "30" "%" kt (by decide +kernel) (by decide +kernel) (by decide +kernel) (by decide +kernel) (by decide +kernel) (by decide +kernel) (fun z => absurd z (by decide +kernel)) (fun z => absurd z (by decide +kernel)) (fun _ => ⟨by decide +kernel, rfl⟩) (fun _ _ z => absurd z (by decide +kernel))
theorem t_u4 (w : World) (mean : ExcName → Option Value) (mg mb : Str → Option Value) (kt : Tok) : Tell w mean mg mb 4 187 [.str "-2%" kt] [] (fun r tl => ∃ p t1 t2, r = .ref p ∧ tl = [(p, tupO [.str "-2" t1, .str "%" t2])]) :=
  t_uG w mean mg mb "-2%" "-2" "%" kt (by decide +kernel) (by decide +kernel) (by decide +kernel) (by decide +kernel) (by decide +kernel) (by decide +kernel) (fun z => absurd z (by decide +kernel)) (fun z => absurd z (by decide +kernel)) (fun _ => ⟨by decide +kernel, rfl⟩) (fun _ _ z => absurd z (by decide +kernel))
theorem reset_L1 : True := by
  w_top off
  trivial
def UnitIs (w : World) (mean : ExcName → Option Value) (mg mb : Str → Option Value) (t d u : Str) : Prop := ∀ kt, Tell w mean mg mb 4 187 [.str t kt] [] (fun r tl => ∃ p t1 t2, r = .ref p ∧ tl = [(p, tupO [.str d t1, .str u t2])])
def ReadIs (w : World) (mean : ExcName → Option Value) (mg mb : Str → Option Value) (d : Str) (a b : Int) : Prop := ∀ kt, Tell w mean mg mb 9 179 [.str d kt] [] (fun r tl => ∃ p t1 t2, r = .ref p ∧ tl = [(p, tupO [.int a t1, .int b t2])])
def ReadBad (w : World) (mean : ExcName → Option Value) (mg mb : Str → Option Value) (d msg : Str) : Prop := ∀ kt, TellX w mean mg mb 9 179 [.str d kt] [] 51 msg (· = .none)
-- LOCAL
local macro_rules | `(tactic| walk_at "noteFrame ref") => `(tactic| (k_here; k_dflt (refine' caught_X0 ?k1 ?k2 ?k3 ?k4 ?k5 ?k6 ?k7 ?k8 ?_; (case k1 | k2 | k3 | k4 | k5 | k6 => assumption); (case k7 => k_is); (case k8 => kts_isx); k_whole; intro h8 g8 Z8 X8 T8; obtain ⟨K8, F8, B8, oe8, ws8, e81, e82, e83, e84, N8⟩ := Z8; (try dsimp only); (try k_fold))))
local macro_rules | `(tactic| walk_at "RaisY") => `(tactic| (k_dflt (refine' raisY_intro ?k1 ?k2 ?k3 ?k4 ?k5 ?k6 ?k7 ?k8 ?k9 ?_; (case k1 | k2 | k3 => k_asm); (case k4 => exact Nat.ne_of_gt (by omega)); (case k5 => exact fun p hp => Nat.ne_of_lt (ktn_ltOf (by walk_at "my alt") p hp)); (case k6 => k_mem); (case k7 | k8 => assumption); (case k9 => kts_isx); k_whole; intro h7 F7 N7; (try dsimp only); (try k_fold))))
local macro_rules | `(tactic| walk_at "eval Dict") => `(tactic| (k_here; k_dflt (refine' kdn_str ?q ?F ?N ?b ?a ?l ?e ?n ?_; (case q => rfl); (case F | N => k_asm); (case b => exact Top.nolimit (by k_asm)); (case a | l => rfl); (case e => exact List.cons_ne_nil _ _); (case n => exact Nat.le_of_ble_eq_true rfl)); intro d' h' o' F' N' l1 lo' hd'; (try k_lt l1)))
local macro_rules | `(tactic| walk_at "newTuple") => `(tactic| (k_here; k_dflt (refine' kup_newTuple ?F ?N ?_ ?z; (case F | N => k_asm); (case z => kmk_size)); intro D' h' F' N' l1; (try k_lt l1); (try k_sweep)))
local macro_rules | `(tactic| walk_at "my raX") => `(tactic| ((case XB | TB => assumption); (case' ret => intro e9 t9 ws9 dx9 km9 ks9 ctx9 g9 h9 tk9 hcx9 F9 R9 U9; (try dsimp only at hcx9); (try subst hcx9); walk_at "my fold")))
local macro_rules | `(tactic| walk_at "call ref") => `(tactic| (k_here; first | (with_reducible apply at_ref 187; (with_reducible rename UnitIs _ _ _ _ _ _ _ => hUO); k_dflt (apply tell_tup (hUO _); walk_at "my u"; walk_at "my tup")) | (with_reducible apply at_ref 179; (with_reducible rename ReadIs _ _ _ _ _ _ _ => hRO); k_dflt (apply tell_tup (hRO _); walk_at "my u"; walk_at "my tup")) | (with_reducible apply at_ref 179; (with_reducible rename ReadBad _ _ _ _ _ _ => hRO); k_dflt (apply tellX_use (hRO _); walk_at "my u"; walk_at "my raX"))))
-- END LOCAL
set_option maxHeartbeats 4000000 in
theorem t_len0 (w : World) (mean : ExcName → Option Value) (mg mb : Str → Option Value) (t d : Str) (kt : Tok) (pw pl : Addr) (wv lv : Int) (k1 k2 k3 k4 : Tok) (x y : Int) (hU : UnitIs w mean mg mb t d "") (hRd : ReadIs w mean mg mb d x y) (hx : -100000 < x ∧ x < 100000) (hy : 0 < y ∧ y < 10000) :
    Tell w mean mg mb 11 196 [.str t kt, .ref pw, .ref pl] [(pw, tupO [.int wv k1, .int 1 k2]), (pl, tupO [.int lv k3, .int 1 k4])] (fun r tl => ∃ p t1 t2, r = .ref p ∧ tl = [(p, tupO [.int (fr1 (x * 1) (y * 1)) t1, .int (fr2 (x * 1) (y * 1)) t2])]) := by
  intro dp un gd cn cs a ccd cl outer A₀ base h₀ L m news s Q E B F X N T hk hR hd hu hret
  have mw := hR _ (List.Mem.head _)
  have ml := hR _ (List.Mem.tail _ (List.Mem.head _))
  refine wpAny_call ?_
  k_with_none
  k_dflt walk_at "my enter"
  k_steps
  exact ret1 hret (by k_asm) (by k_asm) (by k_mem) (by walk_at "my keep") (by walk_at "my lt2") ⟨_, _, _, rfl, rfl⟩
set_option maxHeartbeats 4000000 in
theorem t_lenPt (w : World) (mean : ExcName → Option Value) (mg mb : Str → Option Value) (t d : Str) (kt : Tok) (pw pl : Addr) (wv lv : Int) (k1 k2 k3 k4 : Tok) (x y : Int) (hU : UnitIs w mean mg mb t d "pt") (hRd : ReadIs w mean mg mb d x y) (hx : -100000 < x ∧ x < 100000) (hy : 0 < y ∧ y < 10000) :
    Tell w mean mg mb 11 196 [.str t kt, .ref pw, .ref pl] [(pw, tupO [.int wv k1, .int 1 k2]), (pl, tupO [.int lv k3, .int 1 k4])] (fun r tl => ∃ p t1 t2, r = .ref p ∧ tl = [(p, tupO [.int (fr1 (x * 4) (y * 3)) t1, .int (fr2 (x * 4) (y * 3)) t2])]) := by
  intro dp un gd cn cs a ccd cl outer A₀ base h₀ L m news s Q E B F X N T hk hR hd hu hret
  have mw := hR _ (List.Mem.head _)
  have ml := hR _ (List.Mem.tail _ (List.Mem.head _))
  refine wpAny_call ?_
  k_with_none
  k_dflt walk_at "my enter"
  k_steps
  exact ret1 hret (by k_asm) (by k_asm) (by k_mem) (by walk_at "my keep") (by walk_at "my lt2") ⟨_, _, _, rfl, rfl⟩
set_option maxHeartbeats 4000000 in
theorem t_lenPc (w : World) (mean : ExcName → Option Value) (mg mb : Str → Option Value) (t d : Str) (kt : Tok) (pw pl : Addr) (wv lv : Int) (k1 k2 k3 k4 : Tok) (x y : Int) (hU : UnitIs w mean mg mb t d "%") (hRd : ReadIs w mean mg mb d x y) (hx : -100000 < x ∧ x < 100000) (hy : 0 < y ∧ y < 10000) (hw : -100000 < wv ∧ wv < 100000) (hf : 0 < fr2 (x * wv) (y * 1) ∧ fr2 (x * wv) (y * 1) < 10000) :
    Tell w mean mg mb 11 196 [.str t kt, .ref pw, .ref pl] [(pw, tupO [.int wv k1, .int 1 k2]), (pl, tupO [.int lv k3, .int 1 k4])] (fun r tl => ∃ p t1 t2, r = .ref p ∧ tl = [(p, tupO [.int (fr1 (fr1 (x * wv) (y * 1) * 1) (fr2 (x * wv) (y * 1) * 100)) t1, .int (fr2 (fr1 (x * wv) (y * 1) * 1) (fr2 (x * wv) (y * 1) * 100)) t2])]) := by
  intro dp un gd cn cs a ccd cl outer A₀ base h₀ L m news s Q E B F X N T hk hR hd hu hret
  have mw := hR _ (List.Mem.head _)
  have ml := hR _ (List.Mem.tail _ (List.Mem.head _))
  refine wpAny_call ?_
  k_with_none
  k_dflt walk_at "my enter"
  k_steps
  exact ret1 hret (by k_asm) (by k_asm) (by k_mem) (by walk_at "my keep") (by walk_at "my lt2") ⟨_, _, _, rfl, rfl⟩
set_option maxHeartbeats 4000000 in
theorem t_lenEm (w : World) (mean : ExcName → Option Value) (mg mb : Str → Option Value) (t d : Str) (kt : Tok) (pw pl : Addr) (wv lv : Int) (k1 k2 k3 k4 : Tok) (x y : Int) (hU : UnitIs w mean mg mb t d "em") (hRd : ReadIs w mean mg mb d x y) (hx : -100000 < x ∧ x < 100000) (hy : 0 < y ∧ y < 10000) (hl : -100000 < lv ∧ lv < 100000) :
    Tell w mean mg mb 11 196 [.str t kt, .ref pw, .ref pl] [(pw, tupO [.int wv k1, .int 1 k2]), (pl, tupO [.int lv k3, .int 1 k4])] (fun r tl => ∃ p t1 t2, r = .ref p ∧ tl = [(p, tupO [.int (fr1 (x * lv) (y * 1)) t1, .int (fr2 (x * lv) (y * 1)) t2])]) := by
  intro dp un gd cn cs a ccd cl outer A₀ base h₀ L m news s Q E B F X N T hk hR hd hu hret
  have mw := hR _ (List.Mem.head _)
  have ml := hR _ (List.Mem.tail _ (List.Mem.head _))
  refine wpAny_call ?_
  k_with_none
  k_dflt walk_at "my enter"
  k_steps
  exact ret1 hret (by k_asm) (by k_asm) (by k_mem) (by walk_at "my keep") (by walk_at "my lt2") ⟨_, _, _, rfl, rfl⟩
theorem reset_L2 : True := by
  w_top off
  trivial
-- LOCAL
local macro_rules | `(tactic| ktr_room) => `(tactic| ((try simp only [depth_under_make, depth_under_kw, depth_in1]); simp only [depth_mark]; ktr_room))
-- END LOCAL
set_option maxHeartbeats 4000000 in
theorem t_lenX (w : World) (mean : ExcName → Option Value) (mg mb : Str → Option Value) (t : Str) (kt : Tok) (pw pl : Addr) (wv lv : Int) (k1 k2 k3 k4 : Tok) (msg m2 : Str) (hU : UnitIs w mean mg mb t t "") (hRd : ReadBad w mean mg mb t msg) (ht : t.length < 100) (hm : ("no length: " : Str) ++ t = m2) :
    TellX w mean mg mb 11 196 [.str t kt, .ref pw, .ref pl] [(pw, tupO [.int wv k1, .int 1 k2]), (pl, tupO [.int lv k3, .int 1 k4])] 63 m2 (fun _ => True) := by
  intro dp un gd cn cs a ccd outer A₀ base h₀ L m news s Q E B F X N T hk hR hd hu XB TB hret
  have X := X
  have T := T
  have mw := hR _ (List.Mem.head _)
  have ml := hR _ (List.Mem.tail _ (List.Mem.head _))
  subst hm
  refine wpAny_call ?_
  k_with_none
  k_dflt walk_at "my enter"
  k_steps
  exact hret _ _ _ _ _ _ _ _ _ _ trivial (by assumption) (raisedX_drop (raisedX_turn (by assumption) (fun _ h => h) (by assumption)) (by walk_at "my keep")) (up_turn (by assumption) (by assumption))
theorem reset_TO : True := by
  w_top off
  trivial
/-- a call that either gives back what Out says or ends in a SheetFault that tells one of Bad's messages -/
abbrev TellO (w : World) (mean : ExcName → Option Value) (mg mb : Str → Option Value) (n : Nat) (f : Addr) (vs : List Value) (pre : List (Addr × Obj)) (Out : Value → List (Addr × Obj) → Prop) (Bad : Str → Prop) : Prop :=
  ∀ (dp un : Nat) (gd : Option (List Code)) (cn : Str) (cs : Scope) (a : Addr) (ccd : Value) (outer : List Env) (A₀ : Around) (base h₀ : Heap) (L : Addr) (m : Str → Option Value) (news : List (Addr × Obj)) (s : Shared)
    (Q E : Value → Shared → Prop),
    Below A₀ base outer h₀ → Fr h₀ L s.heap m → (kv.heap_1 w.params).In h₀ → News h₀ L s.heap news → Top VW LO mean mg mb h₀ → cs.kind = .function → (∀ q ∈ pre, q ∈ news) → dp + n < recursionLimit → un + 8 * n < cLine →
    (kv.heap_1 w.params).In base → Top VW LO mean mg mb base →
    (∀ r tl h' tk', Fr h₀ L h' m → News h₀ L h' (tl ++ news) → (∀ q ∈ news, ∀ p ∈ tl, q.1 < p.1) → Out r tl → Q r { s with heap := h', toks := tk' }) →
    (∀ msg, Bad msg → ∀ e t ws dx tkm tks ctx g' h' tk', Fr h₀ L g' m → RaisedX base g' (envOf cn cs L a ccd :: outer) e 63 t ws dx (msgO w "message" tkm (.str msg tks)) ctx news h' → g'.UpToSlots h' → E (.ref e) { s with heap := h', toks := tk' }) →
    wpAny (model PR w) (ktrTop dp un gd cn cs L a ccd [] outer) (call (.ref f) vs) Q E s
theorem tellO_use {w : World} {mean : ExcName → Option Value} {mg mb : Str → Option Value} {n : Nat} {f : Addr} {vs : List Value} {pre : List (Addr × Obj)} {Out : Value → List (Addr × Obj) → Prop} {Bad : Str → Prop} (C : TellO w mean mg mb n f vs pre Out Bad)
    {dp un : Nat} {gd : Option (List Code)} {cn : Str} {cs : Scope} {a : Addr} {ccd : Value} {outer : List Env} {A₀ : Around} {base h₀ : Heap} {L : Addr} {m : Str → Option Value} {news : List (Addr × Obj)} {s : Shared}
    {Q E : Value → Shared → Prop} (B : Below A₀ base outer h₀) (F : Fr h₀ L s.heap m) (X : (kv.heap_1 w.params).In h₀) (N : News h₀ L s.heap news) (T : Top VW LO mean mg mb h₀) (hk : cs.kind = .function) (hp : ∀ q ∈ pre, q ∈ news) (hd : dp + n < recursionLimit) (hu : un + 8 * n < cLine)
    (XB : (kv.heap_1 w.params).In base) (TB : Top VW LO mean mg mb base)
    (ret : ∀ r tl h' tk', Fr h₀ L h' m → News h₀ L h' (tl ++ news) → (∀ q ∈ news, ∀ p ∈ tl, q.1 < p.1) → Out r tl → Q r { s with heap := h', toks := tk' })
    (rai : ∀ msg, Bad msg → ∀ e t ws dx tkm tks ctx g' h' tk', Fr h₀ L g' m → RaisedX base g' (envOf cn cs L a ccd :: outer) e 63 t ws dx (msgO w "message" tkm (.str msg tks)) ctx news h' → g'.UpToSlots h' → E (.ref e) { s with heap := h', toks := tk' }) :
    wpAny (model PR w) (ktrTop dp un gd cn cs L a ccd [] outer) (call (.ref f) vs) Q E s := C _ _ _ _ _ _ _ _ _ _ _ _ _ _ _ _ _ B F X N T hk hp hd hu XB TB ret rai
theorem tellO_of {w : World} {mean : ExcName → Option Value} {mg mb : Str → Option Value} {n : Nat} {f : Addr} {vs : List Value} {pre : List (Addr × Obj)} {Out Out' : Value → List (Addr × Obj) → Prop} {Bad : Str → Prop} (C : Tell w mean mg mb n f vs pre Out) (h : ∀ r tl, Out r tl → Out' r tl) : TellO w mean mg mb n f vs pre Out' Bad :=
  fun _ _ _ _ _ _ _ _ _ _ _ _ _ _ _ _ _ B F X N T hk hR hd hu _ _ ret _ => C _ _ _ _ _ _ _ _ _ _ _ _ _ _ _ _ _ _ B F X N T hk hR hd hu fun r tl h' tk' F' N' l ho => ret r tl h' tk' F' N' l (h r tl ho)
theorem tellO_ofX {w : World} {mean : ExcName → Option Value} {mg mb : Str → Option Value} {n : Nat} {f : Addr} {vs : List Value} {pre : List (Addr × Obj)} {Out : Value → List (Addr × Obj) → Prop} {Bad : Str → Prop} {msg : Str} (C : TellX w mean mg mb n f vs pre 63 msg (fun _ => True)) (h : Bad msg) : TellO w mean mg mb n f vs pre Out Bad :=
  fun _ _ _ _ _ _ _ _ _ _ _ _ _ _ _ _ _ B F X N T hk hR hd hu XB TB _ rai => C _ _ _ _ _ _ _ _ _ _ _ _ _ _ _ _ _ B F X N T hk hR hd hu XB TB fun e t ws dx tkm tks ctx g' h' tk' _ F' R' U' => rai msg h e t ws dx tkm tks ctx g' h' tk' F' R' U'
theorem tellO_mono {w : World} {mean : ExcName → Option Value} {mg mb : Str → Option Value} {n : Nat} {f : Addr} {vs : List Value} {pre pre' : List (Addr × Obj)} {Out Out' : Value → List (Addr × Obj) → Prop} {Bad Bad' : Str → Prop} (C : TellO w mean mg mb n f vs pre Out Bad) (hp : ∀ q ∈ pre, q ∈ pre') (h : ∀ r tl, Out r tl → Out' r tl) (hb : ∀ m, Bad m → Bad' m) : TellO w mean mg mb n f vs pre' Out' Bad' :=
  fun _ _ _ _ _ _ _ _ _ _ _ _ _ _ _ _ _ B F X N T hk hR hd hu XB TB ret rai => C _ _ _ _ _ _ _ _ _ _ _ _ _ _ _ _ _ B F X N T hk (fun q hq => hR q (hp q hq)) hd hu XB TB (fun r tl h' tk' F' N' l ho => ret r tl h' tk' F' N' l (h r tl ho)) fun m b => rai m (hb m b)
def pairOut (a b : Int) (r : Value) (tl : List (Addr × Obj)) : Prop := ∃ p t1 t2, r = .ref p ∧ tl = [(p, tupO [.int a t1, .int b t2])]
/-- what length gives at this text, with a whole of wv and letters of lv -/
def LenIs (w : World) (mean : ExcName → Option Value) (mg mb : Str → Option Value) (t : Str) (wv lv a b : Int) : Prop := ∀ (kt : Tok) (pw pl : Addr) (k1 k2 k3 k4 : Tok), Tell w mean mg mb 11 196 [.str t kt, .ref pw, .ref pl] [(pw, tupO [.int wv k1, .int 1 k2]), (pl, tupO [.int lv k3, .int 1 k4])] (fun r tl => ∃ p t1 t2, r = .ref p ∧ tl = [(p, tupO [.int a t1, .int b t2])])
def LenBad (w : World) (mean : ExcName → Option Value) (mg mb : Str → Option Value) (t : Str) (wv lv : Int) (msg : Str) : Prop := ∀ (kt : Tok) (pw pl : Addr) (k1 k2 k3 k4 : Tok), TellX w mean mg mb 11 196 [.str t kt, .ref pw, .ref pl] [(pw, tupO [.int wv k1, .int 1 k2]), (pl, tupO [.int lv k3, .int 1 k4])] 63 msg (fun _ => True)
/-- what length gives at this text: one of G's values, or one of B's faults -/
def LenO (w : World) (mean : ExcName → Option Value) (mg mb : Str → Option Value) (t : Str) (wv lv : Int) (G : Int → Int → Prop) (B : Str → Prop) : Prop := ∀ (kt : Tok) (pw pl : Addr) (k1 k2 k3 k4 : Tok), TellO w mean mg mb 11 196 [.str t kt, .ref pw, .ref pl] [(pw, tupO [.int wv k1, .int 1 k2]), (pl, tupO [.int lv k3, .int 1 k4])] (fun r tl => ∃ a b, G a b ∧ pairOut a b r tl) B
theorem tellO_sz {w : World} {mean : ExcName → Option Value} {mg mb : Str → Option Value} {n : Nat} {f : Addr} {vs : List Value} {pre : List (Addr × Obj)} {Bad : Str → Prop} {P : Prop} {x y : Int} (C : TellO w mean mg mb n f vs pre (fun r tl => P ∧ pairOut x y r tl) Bad)
    {dp un : Nat} {gd : Option (List Code)} {cn : Str} {cs : Scope} {a : Addr} {ccd : Value} {outer : List Env} {A₀ : Around} {base h₀ : Heap} {L : Addr} {m : Str → Option Value} {news : List (Addr × Obj)} {s : Shared}
    {Q E : Value → Shared → Prop} (B : Below A₀ base outer h₀) (F : Fr h₀ L s.heap m) (X : (kv.heap_1 w.params).In h₀) (N : News h₀ L s.heap news) (T : Top VW LO mean mg mb h₀) (hk : cs.kind = .function) (hp : ∀ q ∈ pre, q ∈ news) (hd : dp + n < recursionLimit) (hu : un + 8 * n < cLine)
    (XB : (kv.heap_1 w.params).In base) (TB : Top VW LO mean mg mb base)
    (ret : ∀ p t1 t2 h' tk', Fr h₀ L h' m → News h₀ L h' ((p, tupO [.int x t1, .int y t2]) :: news) → (∀ q ∈ news, q.1 < p) → P → Q (.ref p) { s with heap := h', toks := tk' })
    (rai : ∀ msg, Bad msg → ∀ e t ws dx tkm tks ctx g' h' tk', Fr h₀ L g' m → RaisedX base g' (envOf cn cs L a ccd :: outer) e 63 t ws dx (msgO w "message" tkm (.str msg tks)) ctx news h' → g'.UpToSlots h' → E (.ref e) { s with heap := h', toks := tk' }) :
    wpAny (model PR w) (ktrTop dp un gd cn cs L a ccd [] outer) (call (.ref f) vs) Q E s :=
  tellO_use C B F X N T hk hp hd hu XB TB (fun r tl h' tk' F' N' l ho => by
    obtain ⟨hP, p, t1, t2, e, e'⟩ := ho
    subst e
    subst e'
    exact ret p t1 t2 h' tk' F' N' (fun q hq => l q hq _ (.head _)) hP) rai
theorem tellO_len {w : World} {mean : ExcName → Option Value} {mg mb : Str → Option Value} {n : Nat} {f : Addr} {vs : List Value} {pre : List (Addr × Obj)} {Bad : Str → Prop} {G : Int → Int → Prop} (C : TellO w mean mg mb n f vs pre (fun r tl => ∃ x y, G x y ∧ pairOut x y r tl) Bad)
    {dp un : Nat} {gd : Option (List Code)} {cn : Str} {cs : Scope} {a : Addr} {ccd : Value} {outer : List Env} {A₀ : Around} {base h₀ : Heap} {L : Addr} {m : Str → Option Value} {news : List (Addr × Obj)} {s : Shared}
    {Q E : Value → Shared → Prop} (B : Below A₀ base outer h₀) (F : Fr h₀ L s.heap m) (X : (kv.heap_1 w.params).In h₀) (N : News h₀ L s.heap news) (T : Top VW LO mean mg mb h₀) (hk : cs.kind = .function) (hp : ∀ q ∈ pre, q ∈ news) (hd : dp + n < recursionLimit) (hu : un + 8 * n < cLine)
    (XB : (kv.heap_1 w.params).In base) (TB : Top VW LO mean mg mb base)
    (ret : ∀ (x y : Int) p t1 t2 h' tk', Fr h₀ L h' m → News h₀ L h' ((p, tupO [.int x t1, .int y t2]) :: news) → (∀ q ∈ news, q.1 < p) → G x y → Q (.ref p) { s with heap := h', toks := tk' })
    (rai : ∀ msg, Bad msg → ∀ e t ws dx tkm tks ctx g' h' tk', Fr h₀ L g' m → RaisedX base g' (envOf cn cs L a ccd :: outer) e 63 t ws dx (msgO w "message" tkm (.str msg tks)) ctx news h' → g'.UpToSlots h' → E (.ref e) { s with heap := h', toks := tk' }) :
    wpAny (model PR w) (ktrTop dp un gd cn cs L a ccd [] outer) (call (.ref f) vs) Q E s :=
  tellO_use C B F X N T hk hp hd hu XB TB (fun r tl h' tk' F' N' l ho => by
    obtain ⟨x, y, hG, p, t1, t2, e, e'⟩ := ho
    subst e
    subst e'
    exact ret x y p t1 t2 h' tk' F' N' (fun q hq => l q hq _ (.head _)) hG) rai
-- LOCAL
local macro_rules | `(tactic| walk_at "my uO") => `(tactic| ((case XB | TB => assumption); (case' rai => intro m9 hb9 e9 t9 ws9 dx9 km9 ks9 ctx9 g9 h9 tk9 F9 R9 U9; (try dsimp only); (try k_fold))))
local macro_rules | `(tactic| walk_at "my lenO") => `(tactic| (case' ret => intro x9 y9 p9 t9 u9 h9 tk9 F9 N9 hl9 hg9; (try have hb9 := And.left hg9); (try k_lt hl9); walk_at "my fold"))
local macro_rules | `(tactic| walk_at "call ref") => `(tactic| (k_here; with_reducible apply at_ref 196; (with_reducible rename LenO _ _ _ _ _ _ _ _ _ => hLO); k_dflt (apply tellO_len (hLO _ _ _ _ _ _ _); walk_at "my u"; walk_at "my uO"; walk_at "my lenO")))
-- END LOCAL
theorem reset_RD : True := by
  w_top off
  trivial
theorem look66 (w : World) : ∃ o, (kv.heap_1 w.params).lookup 66 = some o ∧ o.cls = .type "tuple" ∧ ∃ t1 t2 n, o.data = .seq [Value.int 0 t1, Value.int 1 t2].toArray n := by
  refine ⟨_, by k_is, rfl, _, _, _, rfl⟩
theorem reads66 {w : World} {h₀ h : Heap} {L : Addr} {m : Str → Option Value} (F : Fr h₀ L h m) (X : (kv.heap_1 w.params).In h₀) : ∃ as, Reads h (.ref 66) (.tuple [.int 0, .int 1]) as := by
  obtain ⟨o, ho, hc, t1, t2, n, hd⟩ := look66 w
  exact ⟨_, reads_tuple_at (F.keep _ _ (X _ _ ho)) hc hd (ReadsAll.cons (Reads.int _ _) (ReadsAll.cons (Reads.int _ _) ReadsAll.nil))⟩
/-- the lesser of two fractions, the first when alike -/
def lst (a b c d : Int) : Int × Int := if c * b - a * d < 0 then (c, d) else (a, b)
theorem lst_pos {a b c d : Int} (h : c * b - a * d < 0) : lst a b c d = (c, d) := if_pos h
theorem lst_neg {a b c d : Int} (h : ¬ c * b - a * d < 0) : lst a b c d = (a, b) := if_neg h
abbrev lstH (a b x y : Int) : Int × Int := lst a b (fr1 (x * 1) (y * 2)) (fr2 (x * 1) (y * 2))
/-- two radii -/
def okC (u v : Int × Int) : PyData := .tuple [.tuple [.int u.1, .int u.2], .tuple [.int v.1, .int v.2]]
/-- the two radii with no fault, or a fault -/
def okD (u v : Int × Int) : PyData := .tuple [.tuple [.tuple [.int u.1, .int u.2], .tuple [.int v.1, .int v.2]], .str ""]
def badD (f : Str) : PyData := .tuple [.none, .str f]
/-- what r and its objects stand for, in every later heap -/
def RdT (w : World) (x : PyData) (r : Value) (tl : List (Addr × Obj)) : Prop := ∀ (h₀ h : Heap) (L : Addr) (m : Str → Option Value), Fr h₀ L h m → (kv.heap_1 w.params).In h₀ → News h₀ L h tl → ∃ as, Reads h r x as
theorem rd_tup {h₀ h : Heap} {L p : Addr} {vs : List Value} {xs : List PyData} {tl : List (Addr × Obj)} (N : News h₀ L h tl) (hm : (p, tupO vs) ∈ tl) (hi : ∃ as, ReadsAll h vs xs as) : ∃ as, Reads h (.ref p) (.tuple xs) as := by
  obtain ⟨as, hi⟩ := hi
  exact ⟨as, reads_tuple_at (N.get hm) rfl rfl (by simpa using hi)⟩
theorem rd_cons {h : Heap} {v : Value} {vs : List Value} {d : PyData} {ds : List PyData} (h1 : ∃ as, Reads h v d as) (h2 : ∃ as, ReadsAll h vs ds as) : ∃ as, ReadsAll h (v :: vs) (d :: ds) as := by
  obtain ⟨a, h1⟩ := h1
  obtain ⟨b, h2⟩ := h2
  exact ⟨_, .cons h1 h2⟩
theorem rd_nil {h : Heap} : ∃ as, ReadsAll h [] [] as := ⟨_, .nil⟩
theorem rd_int {h : Heap} {i : Int} {t : Tok} : ∃ as, Reads h (.int i t) (.int i) as := ⟨_, .int _ _⟩
theorem rd_str {h : Heap} {x : Str} {t : Tok} : ∃ as, Reads h (.str x t) (.str x) as := ⟨_, .str _ _⟩
theorem rd_pair {h₀ h : Heap} {L p : Addr} {a b : Int} {t u : Tok} {tl : List (Addr × Obj)} (N : News h₀ L h tl) (hm : (p, tupO [.int a t, .int b u]) ∈ tl) : ∃ as, Reads h (.ref p) (.tuple [.int a, .int b]) as := rd_tup N hm (rd_cons rd_int (rd_cons rd_int rd_nil))
theorem rd_bad (w : World) {f : Str} {p : Addr} {t0 : Tok} : RdT w (badD f) (.ref p) [(p, tupO [.none, .str f t0])] := fun _ _ _ _ _ _ N =>
  rd_tup N (.head _) (rd_cons ⟨_, .none⟩ (rd_cons rd_str rd_nil))
theorem rd_lst {h₀ h : Heap} {L pa pb : Addr} {a b x y : Int} {t1 t2 t3 t4 : Tok} {tl : List (Addr × Obj)} (N : News h₀ L h tl) (h1 : (pa, tupO [.int a t1, .int b t2]) ∈ tl) (h2 : (pb, tupO [.int x t3, .int y t4]) ∈ tl) : ∃ as, Reads h (if x * b - a * y < 0 then Value.ref pb else .ref pa) (.tuple [.int (lst a b x y).1, .int (lst a b x y).2]) as := by
  by_cases q : x * b - a * y < 0
  · rw [if_pos q, lst_pos q]; exact rd_pair N h2
  · rw [if_neg q, lst_neg q]; exact rd_pair N h1
theorem rd_cor (w : World) {D pa pb qa qb : Addr} {a1 b1 x1 y1 a2 b2 x2 y2 : Int} {t1 t2 t3 t4 t5 t6 t7 t8 : Tok} : RdT w (okC (lst a1 b1 x1 y1) (lst a2 b2 x2 y2)) (.ref D) [(D, tupO [if x1 * b1 - a1 * y1 < 0 then .ref pb else .ref pa, if x2 * b2 - a2 * y2 < 0 then .ref qb else .ref qa]), (pa, tupO [.int a1 t1, .int b1 t2]), (pb, tupO [.int x1 t3, .int y1 t4]), (qa, tupO [.int a2 t5, .int b2 t6]), (qb, tupO [.int x2 t7, .int y2 t8])] := fun _ _ _ _ _ _ N =>
  rd_tup N (.head _) (rd_cons (rd_lst N (.tail _ (.head _)) (.tail _ (.tail _ (.head _)))) (rd_cons (rd_lst N (.tail _ (.tail _ (.tail _ (.head _)))) (.tail _ (.tail _ (.tail _ (.tail _ (.head _)))))) rd_nil))
theorem rd_cor0 (w : World) {D : Addr} : RdT w (okC (0, 1) (0, 1)) (.ref D) [(D, tupO [.ref 66, .ref 66])] := fun _ _ _ _ F X N =>
  rd_tup N (.head _) (rd_cons (reads66 F X) (rd_cons (reads66 F X) rd_nil))
def AllLtL : List (Addr × Obj) → List (Addr × Obj) → Prop
  | [], _ => True
  | p :: r, n => AllLt p.1 n ∧ AllLtL r n
theorem AllLtL.at : ∀ {tl news : List (Addr × Obj)}, AllLtL tl news → ∀ q ∈ news, ∀ p ∈ tl, q.1 < p.1
  | [], _, _, _, _, p, hp => nomatch hp
  | _ :: _, _, h, q, hq, p, hp => by
    rcases List.mem_cons.mp hp with e | e
    · rw [e]; exact ktn_ltOf h.1 q hq
    · exact AllLtL.at h.2 q hq p e
theorem retL {h₀ h' : Heap} {L : Addr} {m : Str → Option Value} {news news' tl : List (Addr × Obj)} {s : Shared} {Q : Value → Shared → Prop} {Out : Value → List (Addr × Obj) → Prop} {r : Value} {tk' : Nat}
    (ret : ∀ r tl h' tk', Fr h₀ L h' m → News h₀ L h' (tl ++ news) → (∀ q ∈ news, ∀ p ∈ tl, q.1 < p.1) → Out r tl → Q r { s with heap := h', toks := tk' })
    (ho : Out r tl) (F : Fr h₀ L h' m) (N : News h₀ L h' news') (hm : ∀ p ∈ tl, p ∈ news') (hs : ∀ q ∈ news, q ∈ news') (hl : AllLtL tl news) : Q r { s with heap := h', toks := tk' } :=
  ret r tl h' tk' F (cb_drop N (fun p hp => (List.mem_append.mp hp).elim (hm p) (hs p))) hl.at ho
theorem reset_H1 : True := by
  w_top off
  trivial
abbrev frameD (w : World) (k1 k2 k3 : Tok) (pw ph pl : Addr) : Obj := dictOf [⟨PyData.keyHash w.params "width", .str "width" k1, .ref pw⟩, ⟨PyData.keyHash w.params "height", .str "height" k2, .ref ph⟩, ⟨PyData.keyHash w.params "font_size", .str "font_size" k3, .ref pl⟩] 3
abbrev elemD (w : World) (k1 k2 k3 k4 : Tok) (nm : Value) (pa : Addr) (ch tx : Value) : Obj := dictOf [⟨PyData.keyHash w.params "name", .str "name" k1, nm⟩, ⟨PyData.keyHash w.params "attributes", .str "attributes" k2, .ref pa⟩, ⟨PyData.keyHash w.params "children", .str "children" k3, ch⟩, ⟨PyData.keyHash w.params "text", .str "text" k4, tx⟩] 4
/-- a told length comes to a/b, or to the fault f -/
def RowG (name : Str) (a b : Int) (f : Str) (x y : Int) : Prop := (0 < y ∧ y < 1073741824) ∧ (¬ x < 0 → f = "" ∧ x = a ∧ y = b) ∧ (x < 0 → name ++ " is below nought" = f ∧ f ≠ "")
theorem pair_is {p : Addr} {x y a b : Int} {t1 t2 : Tok} (h1 : x = a) (h2 : y = b) : pairOut a b (.ref p) [(p, tupO [.int x t1, .int y t2])] := ⟨p, t1, t2, rfl, by rw [h1, h2]⟩
theorem low_rx : ("rx" : Str) ++ " is below nought" = "rx is below nought" := by decide +kernel
theorem low_ry : ("ry" : Str) ++ " is below nought" = "ry is below nought" := by decide +kernel
-- LOCAL
local macro_rules | `(tactic| walk_at "getMethod ref") => `(tactic| (k_here; (with_reducible show wpAny _ _ (getMethod (Value.ref _) (Str.ofString "get") _) _ _ _); k_dflt (refine kdg_method (knd := PySem.strKind _ _) (by assumption) (by k_mem) (by assumption) ?_)))
local macro_rules | `(tactic| walk_at "call builtin:dict.get") => `(tactic| (k_here; k_dflt (first | refine kdg_get1 (knd := PySem.strKind _ _) (by assumption) (by k_mem) (by assumption) (by assumption) (strKind_is _ _ _ _) (some _) (by assumption) ?_ | refine kdg_get1 (knd := PySem.strKind _ _) (by assumption) (by k_mem) (by assumption) (by assumption) (strKind_is _ _ _ _) none (by assumption) ?_); (try dsimp only [Option.getD])))
-- END LOCAL
set_option maxHeartbeats 4000000 in
theorem t_szX (w : World) (mean : ExcName → Option Value) (mg mb : Str → Option Value) (pf df pe de pa pw ph pl : Addr) (j1 j2 j3 i1 i2 i3 i4 k1 k2 k3 k4 k5 k6 tt kn : Tok) (nm ch tx : Value) (oA : Obj) (prs : List (Str × Value)) (W H l av bv : Int) (t f : Str) (hD : oA.IsDictOf (PySem.strKind PR w) prs) (hlo : (pa == sysModules) = false) (hg : valueAt prs "rx" = some (.str t tt)) (hL : LenO w mean mg mb t W l (RowG "rx" av bv f) (fun m => m = f ∧ f ≠ "")) :
    TellO w mean mg mb 15 236 [.ref pf, .ref pe, .str "rx" kn] [(pf, instObj 239 df), (df, frameD w j1 j2 j3 pw ph pl), (pe, instObj 275 de), (de, elemD w i1 i2 i3 i4 nm pa ch tx), (pa, oA), (pw, tupO [.int W k1, .int 1 k2]), (ph, tupO [.int H k3, .int 1 k4]), (pl, tupO [.int l k5, .int 1 k6])] (fun r tl => f = "" ∧ pairOut av bv r tl) (fun m => m = f ∧ f ≠ "") := by
  intro dp un gd cn cs a ccd outer A₀ base h₀ L m news s Q E B F X N T hk hR hd hu XB TB hret hrai
  have hlow := low_rx
  have hl1 : ("rx" : Str).length < 60 := by decide +kernel
  have X := X
  have T := T
  have m0 := hR _ (List.Mem.head _)
  have m1 := hR _ (List.Mem.tail _ (List.Mem.head _))
  have m2 := hR _ (List.Mem.tail _ (List.Mem.tail _ (List.Mem.head _)))
  have m3 := hR _ (List.Mem.tail _ (List.Mem.tail _ (List.Mem.tail _ (List.Mem.head _))))
  have m4 := hR _ (List.Mem.tail _ (List.Mem.tail _ (List.Mem.tail _ (List.Mem.tail _ (List.Mem.head _)))))
  have m5 := hR _ (List.Mem.tail _ (List.Mem.tail _ (List.Mem.tail _ (List.Mem.tail _ (List.Mem.tail _ (List.Mem.head _))))))
  have m6 := hR _ (List.Mem.tail _ (List.Mem.tail _ (List.Mem.tail _ (List.Mem.tail _ (List.Mem.tail _ (List.Mem.tail _ (List.Mem.head _)))))))
  have m7 := hR _ (List.Mem.tail _ (List.Mem.tail _ (List.Mem.tail _ (List.Mem.tail _ (List.Mem.tail _ (List.Mem.tail _ (List.Mem.tail _ (List.Mem.head _))))))))
  clear hR
  refine wpAny_call ?_
  k_with_none
  k_dflt walk_at "my enter"
  k_steps
  all_goals first
    | (with_reducible rename RowG _ _ _ _ _ _ => hg
       have z := hg.2.1 (by first | omega | exact fun q => (‹¬ sgn _ < 0›) (sgn_lt.mpr (by omega)))
       exact ret1 hret (by k_asm) (by k_asm) (by k_mem) (by walk_at "my keep") (by walk_at "my lt2") ⟨z.1, pair_is z.2.1 z.2.2⟩)
    | (with_reducible rename RowG _ _ _ _ _ _ => hg
       have z := hg.2.2 (by first | omega | (have q := sgn_lt.mp ‹sgn _ < 0›; omega))
       exact hrai _ ⟨low_rx.symm.trans z.1, z.2⟩ _ _ _ _ _ _ _ _ _ _ (by assumption) (raisedX_drop (by assumption) (by walk_at "my keep")) (by assumption))
    | exact hrai _ (by assumption) _ _ _ _ _ _ _ _ _ _ (by assumption) (raisedX_drop (by assumption) (by walk_at "my keep")) (by assumption)
set_option maxHeartbeats 4000000 in
theorem t_szY (w : World) (mean : ExcName → Option Value) (mg mb : Str → Option Value) (pf df pe de pa pw ph pl : Addr) (j1 j2 j3 i1 i2 i3 i4 k1 k2 k3 k4 k5 k6 tt kn : Tok) (nm ch tx : Value) (oA : Obj) (prs : List (Str × Value)) (W H l av bv : Int) (t f : Str) (hD : oA.IsDictOf (PySem.strKind PR w) prs) (hlo : (pa == sysModules) = false) (hg : valueAt prs "ry" = some (.str t tt)) (hL : LenO w mean mg mb t H l (RowG "ry" av bv f) (fun m => m = f ∧ f ≠ "")) :
    TellO w mean mg mb 15 236 [.ref pf, .ref pe, .str "ry" kn] [(pf, instObj 239 df), (df, frameD w j1 j2 j3 pw ph pl), (pe, instObj 275 de), (de, elemD w i1 i2 i3 i4 nm pa ch tx), (pa, oA), (pw, tupO [.int W k1, .int 1 k2]), (ph, tupO [.int H k3, .int 1 k4]), (pl, tupO [.int l k5, .int 1 k6])] (fun r tl => f = "" ∧ pairOut av bv r tl) (fun m => m = f ∧ f ≠ "") := by
  intro dp un gd cn cs a ccd outer A₀ base h₀ L m news s Q E B F X N T hk hR hd hu XB TB hret hrai
  have hlow := low_ry
  have hl1 : ("ry" : Str).length < 60 := by decide +kernel
  have X := X
  have T := T
  have m0 := hR _ (List.Mem.head _)
  have m1 := hR _ (List.Mem.tail _ (List.Mem.head _))
  have m2 := hR _ (List.Mem.tail _ (List.Mem.tail _ (List.Mem.head _)))
  have m3 := hR _ (List.Mem.tail _ (List.Mem.tail _ (List.Mem.tail _ (List.Mem.head _))))
  have m4 := hR _ (List.Mem.tail _ (List.Mem.tail _ (List.Mem.tail _ (List.Mem.tail _ (List.Mem.head _)))))
  have m5 := hR _ (List.Mem.tail _ (List.Mem.tail _ (List.Mem.tail _ (List.Mem.tail _ (List.Mem.tail _ (List.Mem.head _))))))
  have m6 := hR _ (List.Mem.tail _ (List.Mem.tail _ (List.Mem.tail _ (List.Mem.tail _ (List.Mem.tail _ (List.Mem.tail _ (List.Mem.head _)))))))
  have m7 := hR _ (List.Mem.tail _ (List.Mem.tail _ (List.Mem.tail _ (List.Mem.tail _ (List.Mem.tail _ (List.Mem.tail _ (List.Mem.tail _ (List.Mem.head _))))))))
  clear hR
  refine wpAny_call ?_
  k_with_none
  k_dflt walk_at "my enter"
  k_steps
  all_goals first
    | (with_reducible rename RowG _ _ _ _ _ _ => hg
       have z := hg.2.1 (by first | omega | exact fun q => (‹¬ sgn _ < 0›) (sgn_lt.mpr (by omega)))
       exact ret1 hret (by k_asm) (by k_asm) (by k_mem) (by walk_at "my keep") (by walk_at "my lt2") ⟨z.1, pair_is z.2.1 z.2.2⟩)
    | (with_reducible rename RowG _ _ _ _ _ _ => hg
       have z := hg.2.2 (by first | omega | (have q := sgn_lt.mp ‹sgn _ < 0›; omega))
       exact hrai _ ⟨low_ry.symm.trans z.1, z.2⟩ _ _ _ _ _ _ _ _ _ _ (by assumption) (raisedX_drop (by assumption) (by walk_at "my keep")) (by assumption))
    | exact hrai _ (by assumption) _ _ _ _ _ _ _ _ _ _ (by assumption) (raisedX_drop (by assumption) (by walk_at "my keep")) (by assumption)
theorem reset_C2 : True := by
  w_top off
  trivial
def SizeO (w : World) (mean : ExcName → Option Value) (mg mb : Str → Option Value) (pre : List (Addr × Obj)) (pf pe : Addr) (name : Str) (a b : Int) (f : Str) : Prop := ∀ kn, TellO w mean mg mb 15 236 [.ref pf, .ref pe, .str name kn] pre (fun r tl => f = "" ∧ pairOut a b r tl) (fun m => m = f ∧ f ≠ "")
theorem sizeO_at {w : World} {mean : ExcName → Option Value} {mg mb : Str → Option Value} {pre : List (Addr × Obj)} {pf pe : Addr} {name : Str} {a b : Int} {f : Str} (h : SizeO w mean mg mb pre pf pe name a b f) (kn : Tok) : TellO w mean mg mb 15 236 [.ref pf, .ref pe, .str name kn] pre (fun r tl => f = "" ∧ pairOut a b r tl) (fun m => m = f ∧ f ≠ "") := h kn
-- LOCAL
local macro_rules | `(tactic| walk_at "my pre") => `(tactic| first | exact drop_trans (by with_reducible assumption) (by walk_at "my keep") | fail)
local macro_rules | `(tactic| walk_at "my szO") => `(tactic| (case' ret => intro p9 t9 u9 h9 tk9 F9 N9 hl9 hf9; (try k_lt hl9); walk_at "my fold"))
local macro_rules | `(tactic| walk_at "call ref") => `(tactic| (k_here; with_reducible apply at_ref 236; k_dflt (apply tellO_sz (sizeO_at ?hS _); (case hS => with_reducible assumption); walk_at "my u"; walk_at "my uO"; walk_at "my szO")))
-- END LOCAL
set_option maxHeartbeats 8000000 in
theorem t_corB (w : World) (mean : ExcName → Option Value) (mg mb : Str → Option Value) (pre : List (Addr × Obj)) (pf df pe de pa pwd phd pw ph pl : Addr) (j1 j2 j3 i1 i2 i3 i4 k1 k2 k3 k4 tx ty : Tok) (nm ch tt : Value) (oA : Obj) (prs : List (Str × Value)) (w0 w1 h0 h1 : Int) (t1 t2 : Str) (hD : oA.IsDictOf (PySem.strKind PR w) prs) (hlo : (pa == sysModules) = false) (hf : (pf, instObj 239 df) ∈ pre) (hdf : (df, frameD w j1 j2 j3 pw ph pl) ∈ pre) (he : (pe, instObj 275 de) ∈ pre) (hde : (de, elemD w i1 i2 i3 i4 nm pa ch tt) ∈ pre) (hpa : (pa, oA) ∈ pre) (hpw : (pwd, tupO [.int w0 k1, .int w1 k2]) ∈ pre) (hph : (phd, tupO [.int h0 k3, .int h1 k4]) ∈ pre) (hw1 : 0 < w1 ∧ w1 < 10000) (hh1 : 0 < h1 ∧ h1 < 10000) (a1 b1 a2 b2 : Int) (f1 f2 : Str) (hgx : valueAt prs "rx" = some (.str t1 tx)) (hgy : valueAt prs "ry" = some (.str t2 ty)) (hS1 : SizeO w mean mg mb pre pf pe "rx" a1 b1 f1) (hS2 : SizeO w mean mg mb pre pf pe "ry" a2 b2 f2) (hb1 : 0 < b1 ∧ b1 < 1073741824) (hb2 : 0 < b2 ∧ b2 < 1073741824) (hf1 : 0 < fr2 (w0 * 1) (w1 * 2) ∧ fr2 (w0 * 1) (w1 * 2) < 1073741824) (hf2 : 0 < fr2 (h0 * 1) (h1 * 2) ∧ fr2 (h0 * 1) (h1 * 2) < 1073741824) :
    TellO w mean mg mb 18 250 [.ref pe, .ref pf, .ref pwd, .ref phd] pre (fun r tl => f1 = "" ∧ f2 = "" ∧ RdT w (okC (lstH a1 b1 w0 w1) (lstH a2 b2 h0 h1)) r tl) (fun m => (m = f1 ∧ f1 ≠ "") ∨ (f1 = "" ∧ m = f2 ∧ f2 ≠ "")) := by
  intro dp un gd cn cs a ccd outer A₀ base h₀ L m news s Q E B F X N T hk hR hd hu XB TB hret hrai
  have X := X
  have T := T
  have me := hR _ he
  have mde := hR _ hde
  have mpa := hR _ hpa
  have mpw := hR _ hpw
  have mph := hR _ hph
  have mf := hR _ hf
  have mdf := hR _ hdf
  clear he hde hpa hpw hph hf hdf
  refine wpAny_call ?_
  k_with_none
  k_dflt walk_at "my enter"
  k_steps
  · refine retL hret (tl := [(_, tupO [_, _]), (_, tupO [.int _ _, .int _ _]), (_, tupO [.int _ _, .int _ _]), (_, tupO [.int _ _, .int _ _]), (_, tupO [.int _ _, .int _ _])]) ⟨by assumption, by assumption, rd_cor w⟩ (by k_asm) (by assumption) (by walk_at "my pre") (by walk_at "my keep") ⟨by walk_at "my lt2", by walk_at "my lt2", by walk_at "my lt2", by walk_at "my lt2", by walk_at "my lt2", trivial⟩
  · exact hrai _ (.inr ⟨by assumption, by assumption⟩) _ _ _ _ _ _ _ _ _ _ (by assumption) (raisedX_drop (by assumption) (by walk_at "my keep")) (by assumption)
  · exact hrai _ (.inl (by assumption)) _ _ _ _ _ _ _ _ _ _ (by assumption) (raisedX_drop (by assumption) (by walk_at "my keep")) (by assumption)
set_option maxHeartbeats 8000000 in
theorem t_corX (w : World) (mean : ExcName → Option Value) (mg mb : Str → Option Value) (pre : List (Addr × Obj)) (pf df pe de pa pwd phd pw ph pl : Addr) (j1 j2 j3 i1 i2 i3 i4 k1 k2 k3 k4 tx ty : Tok) (nm ch tt : Value) (oA : Obj) (prs : List (Str × Value)) (w0 w1 h0 h1 : Int) (t1 t2 : Str) (hD : oA.IsDictOf (PySem.strKind PR w) prs) (hlo : (pa == sysModules) = false) (hf : (pf, instObj 239 df) ∈ pre) (hdf : (df, frameD w j1 j2 j3 pw ph pl) ∈ pre) (he : (pe, instObj 275 de) ∈ pre) (hde : (de, elemD w i1 i2 i3 i4 nm pa ch tt) ∈ pre) (hpa : (pa, oA) ∈ pre) (hpw : (pwd, tupO [.int w0 k1, .int w1 k2]) ∈ pre) (hph : (phd, tupO [.int h0 k3, .int h1 k4]) ∈ pre) (hw1 : 0 < w1 ∧ w1 < 10000) (hh1 : 0 < h1 ∧ h1 < 10000) (a1 b1 : Int) (f1 : Str) (hgx : valueAt prs "rx" = some (.str t1 tx)) (hgy : valueAt prs "ry" = none) (hS1 : SizeO w mean mg mb pre pf pe "rx" a1 b1 f1) (hb1 : 0 < b1 ∧ b1 < 1073741824) (hf1 : 0 < fr2 (w0 * 1) (w1 * 2) ∧ fr2 (w0 * 1) (w1 * 2) < 1073741824) (hf2 : 0 < fr2 (h0 * 1) (h1 * 2) ∧ fr2 (h0 * 1) (h1 * 2) < 1073741824) :
    TellO w mean mg mb 18 250 [.ref pe, .ref pf, .ref pwd, .ref phd] pre (fun r tl => f1 = "" ∧ RdT w (okC (lstH a1 b1 w0 w1) (lstH a1 b1 h0 h1)) r tl) (fun m => m = f1 ∧ f1 ≠ "") := by
  intro dp un gd cn cs a ccd outer A₀ base h₀ L m news s Q E B F X N T hk hR hd hu XB TB hret hrai
  have X := X
  have T := T
  have me := hR _ he
  have mde := hR _ hde
  have mpa := hR _ hpa
  have mpw := hR _ hpw
  have mph := hR _ hph
  have mf := hR _ hf
  have mdf := hR _ hdf
  clear he hde hpa hpw hph hf hdf
  refine wpAny_call ?_
  k_with_none
  k_dflt walk_at "my enter"
  k_steps
  · refine retL hret (tl := [(_, tupO [_, _]), (_, tupO [.int _ _, .int _ _]), (_, tupO [.int _ _, .int _ _]), (_, tupO [.int _ _, .int _ _]), (_, tupO [.int _ _, .int _ _])]) ⟨by assumption, rd_cor w⟩ (by k_asm) (by assumption) (by walk_at "my pre") (by walk_at "my keep") ⟨by walk_at "my lt2", by walk_at "my lt2", by walk_at "my lt2", by walk_at "my lt2", by walk_at "my lt2", trivial⟩
  · exact hrai _ (by assumption) _ _ _ _ _ _ _ _ _ _ (by assumption) (raisedX_drop (by assumption) (by walk_at "my keep")) (by assumption)
  · exact hrai _ (by assumption) _ _ _ _ _ _ _ _ _ _ (by assumption) (raisedX_drop (by assumption) (by walk_at "my keep")) (by assumption)
set_option maxHeartbeats 8000000 in
theorem t_corY (w : World) (mean : ExcName → Option Value) (mg mb : Str → Option Value) (pre : List (Addr × Obj)) (pf df pe de pa pwd phd pw ph pl : Addr) (j1 j2 j3 i1 i2 i3 i4 k1 k2 k3 k4 tx ty : Tok) (nm ch tt : Value) (oA : Obj) (prs : List (Str × Value)) (w0 w1 h0 h1 : Int) (t1 t2 : Str) (hD : oA.IsDictOf (PySem.strKind PR w) prs) (hlo : (pa == sysModules) = false) (hf : (pf, instObj 239 df) ∈ pre) (hdf : (df, frameD w j1 j2 j3 pw ph pl) ∈ pre) (he : (pe, instObj 275 de) ∈ pre) (hde : (de, elemD w i1 i2 i3 i4 nm pa ch tt) ∈ pre) (hpa : (pa, oA) ∈ pre) (hpw : (pwd, tupO [.int w0 k1, .int w1 k2]) ∈ pre) (hph : (phd, tupO [.int h0 k3, .int h1 k4]) ∈ pre) (hw1 : 0 < w1 ∧ w1 < 10000) (hh1 : 0 < h1 ∧ h1 < 10000) (a2 b2 : Int) (f2 : Str) (hgx : valueAt prs "rx" = none) (hgy : valueAt prs "ry" = some (.str t2 ty)) (hS2 : SizeO w mean mg mb pre pf pe "ry" a2 b2 f2) (hb2 : 0 < b2 ∧ b2 < 1073741824) (hf1 : 0 < fr2 (w0 * 1) (w1 * 2) ∧ fr2 (w0 * 1) (w1 * 2) < 1073741824) (hf2 : 0 < fr2 (h0 * 1) (h1 * 2) ∧ fr2 (h0 * 1) (h1 * 2) < 1073741824) :
    TellO w mean mg mb 18 250 [.ref pe, .ref pf, .ref pwd, .ref phd] pre (fun r tl => f2 = "" ∧ RdT w (okC (lstH a2 b2 w0 w1) (lstH a2 b2 h0 h1)) r tl) (fun m => m = f2 ∧ f2 ≠ "") := by
  intro dp un gd cn cs a ccd outer A₀ base h₀ L m news s Q E B F X N T hk hR hd hu XB TB hret hrai
  have X := X
  have T := T
  have me := hR _ he
  have mde := hR _ hde
  have mpa := hR _ hpa
  have mpw := hR _ hpw
  have mph := hR _ hph
  have mf := hR _ hf
  have mdf := hR _ hdf
  clear he hde hpa hpw hph hf hdf
  refine wpAny_call ?_
  k_with_none
  k_dflt walk_at "my enter"
  k_steps
  · refine retL hret (tl := [(_, tupO [_, _]), (_, tupO [.int _ _, .int _ _]), (_, tupO [.int _ _, .int _ _]), (_, tupO [.int _ _, .int _ _]), (_, tupO [.int _ _, .int _ _])]) ⟨by assumption, rd_cor w⟩ (by k_asm) (by assumption) (by walk_at "my pre") (by walk_at "my keep") ⟨by walk_at "my lt2", by walk_at "my lt2", by walk_at "my lt2", by walk_at "my lt2", by walk_at "my lt2", trivial⟩
  · exact hrai _ (by assumption) _ _ _ _ _ _ _ _ _ _ (by assumption) (raisedX_drop (by assumption) (by walk_at "my keep")) (by assumption)
  · exact hrai _ (by assumption) _ _ _ _ _ _ _ _ _ _ (by assumption) (raisedX_drop (by assumption) (by walk_at "my keep")) (by assumption)
set_option maxHeartbeats 8000000 in
theorem t_cor0 (w : World) (mean : ExcName → Option Value) (mg mb : Str → Option Value) (pre : List (Addr × Obj)) (pf df pe de pa pwd phd pw ph pl : Addr) (j1 j2 j3 i1 i2 i3 i4 k1 k2 k3 k4 tx ty : Tok) (nm ch tt : Value) (oA : Obj) (prs : List (Str × Value)) (w0 w1 h0 h1 : Int) (t1 t2 : Str) (hD : oA.IsDictOf (PySem.strKind PR w) prs) (hlo : (pa == sysModules) = false) (hf : (pf, instObj 239 df) ∈ pre) (hdf : (df, frameD w j1 j2 j3 pw ph pl) ∈ pre) (he : (pe, instObj 275 de) ∈ pre) (hde : (de, elemD w i1 i2 i3 i4 nm pa ch tt) ∈ pre) (hpa : (pa, oA) ∈ pre) (hpw : (pwd, tupO [.int w0 k1, .int w1 k2]) ∈ pre) (hph : (phd, tupO [.int h0 k3, .int h1 k4]) ∈ pre) (hw1 : 0 < w1 ∧ w1 < 10000) (hh1 : 0 < h1 ∧ h1 < 10000) (hgx : valueAt prs "rx" = none) (hgy : valueAt prs "ry" = none) :
    TellO w mean mg mb 18 250 [.ref pe, .ref pf, .ref pwd, .ref phd] pre (fun r tl => RdT w (okC (0, 1) (0, 1)) r tl) (fun _ => False) := by
  intro dp un gd cn cs a ccd outer A₀ base h₀ L m news s Q E B F X N T hk hR hd hu XB TB hret hrai
  have X := X
  have T := T
  have me := hR _ he
  have mde := hR _ hde
  have mpa := hR _ hpa
  have mpw := hR _ hpw
  have mph := hR _ hph
  have mf := hR _ hf
  have mdf := hR _ hdf
  clear he hde hpa hpw hph hf hdf
  refine wpAny_call ?_
  k_with_none
  k_dflt walk_at "my enter"
  k_steps
  exact retL hret (rd_cor0 w) (by k_asm) (by assumption) (by walk_at "my pre") (by walk_at "my keep") ⟨by walk_at "my lt2", trivial⟩
theorem reset_K4 : True := by
  w_top off
  trivial
abbrev corPre (w : World) (pf df pe de pa pwd phd pw ph pl : Addr) (j1 j2 j3 i1 i2 i3 i4 k1 k2 k3 k4 k5 k6 k7 k8 k9 k10 : Tok) (nm ch tt : Value) (oA : Obj) (W H l w0 w1 h0 h1 : Int) : List (Addr × Obj) :=
  [(pf, instObj 239 df), (df, frameD w j1 j2 j3 pw ph pl), (pe, instObj 275 de), (de, elemD w i1 i2 i3 i4 nm pa ch tt), (pa, oA), (pw, tupO [.int W k1, .int 1 k2]), (ph, tupO [.int H k3, .int 1 k4]), (pl, tupO [.int l k5, .int 1 k6]), (pwd, tupO [.int w0 k7, .int w1 k8]), (phd, tupO [.int h0 k9, .int h1 k10])]
/-- a call from a frame that stands on the first one -/
abbrev TellA (w : World) (mean : ExcName → Option Value) (mg mb : Str → Option Value) (n : Nat) (f : Addr) (vs : List Value) (pre : List (Addr × Obj)) (Out : Value → List (Addr × Obj) → Prop) : Prop :=
  ∀ (dp un : Nat) (gd : Option (List Code)) (cn : Str) (cs : Scope) (a : Addr) (ccd : Value) (A₀ : Around) (base h₀ : Heap) (L : Addr) (m : Str → Option Value) (news : List (Addr × Obj)) (s : Shared)
    (Q E : Value → Shared → Prop),
    Below A₀ base [] h₀ → Fr h₀ L s.heap m → (kv.heap_1 w.params).In h₀ → News h₀ L s.heap news → Top VW LO mean mg mb h₀ → cs.kind = .function → (∀ q ∈ pre, q ∈ news) → dp + n < recursionLimit → un + 8 * n < cLine →
    (kv.heap_1 w.params).In base → Top VW LO mean mg mb base →
    (∀ r tl h' tk', Fr h₀ L h' m → News h₀ L h' (tl ++ news) → (∀ q ∈ news, ∀ p ∈ tl, q.1 < p.1) → Out r tl → Q r { s with heap := h', toks := tk' }) →
    wpAny (model PR w) (ktrTop dp un gd cn cs L a ccd [] []) (call (.ref f) vs) Q E s
/-- what corner_radii comes to: X is the answer that the law's text builds of it -/
def CorO (w : World) (mean : ExcName → Option Value) (mg mb : Str → Option Value) (prs : List (Str × Value)) (W H l w0 w1 h0 h1 : Int) (X : PyData) : Prop :=
  ∀ (pf df pe de pa pwd phd pw ph pl : Addr) (j1 j2 j3 i1 i2 i3 i4 k1 k2 k3 k4 k5 k6 k7 k8 k9 k10 : Tok) (nm ch tt : Value) (oA : Obj), oA.IsDictOf (PySem.strKind PR w) prs → (pa == sysModules) = false →
    TellO w mean mg mb 18 250 [.ref pe, .ref pf, .ref pwd, .ref phd] (corPre w pf df pe de pa pwd phd pw ph pl j1 j2 j3 i1 i2 i3 i4 k1 k2 k3 k4 k5 k6 k7 k8 k9 k10 nm ch tt oA W H l w0 w1 h0 h1) (fun r tl => ∃ x, X = .tuple [x, .str ""] ∧ RdT w x r tl) (fun m => X = badD m)
def SplitN (news tl all : List (Addr × Obj)) : Prop := all = tl ++ news ∧ (∀ p ∈ tl, p ∈ all) ∧ (∀ p ∈ news, p ∈ all) ∧ ∀ q ∈ news, ∀ p ∈ tl, q.1 < p.1
theorem split_news {news tl : List (Addr × Obj)} (h : ∀ q ∈ news, ∀ p ∈ tl, q.1 < p.1) : ∃ all, SplitN news tl all := ⟨_, rfl, fun _ h => List.mem_append_left _ h, fun _ h => List.mem_append_right _ h, h⟩
theorem sub_lt {a b tl : List (Addr × Obj)} (h : ∀ q ∈ b, ∀ p ∈ tl, q.1 < p.1) (hs : ∀ q ∈ a, q ∈ b) : ∀ q ∈ a, ∀ p ∈ tl, q.1 < p.1 := fun q hq => h q (hs q hq)
theorem rd_ans (w : World) {D : Addr} {r : Value} {t : Tok} {tl : List (Addr × Obj)} {X : PyData} (h : ∃ x, X = .tuple [x, .str ""] ∧ RdT w x r tl) : RdT w X (.ref D) ((D, tupO [r, .str "" t]) :: tl) := fun _ _ _ _ F I N => by
  obtain ⟨x, e, h⟩ := h
  rw [e]
  exact rd_tup N (.head _) (rd_cons (h _ _ _ _ F I (cb_drop N (drop_cons drop_all))) (rd_cons rd_str rd_nil))
theorem rd_ansX (w : World) {D : Addr} {t : Tok} {m : Str} {X : PyData} (h : X = badD m) : RdT w X (.ref D) [(D, tupO [.none, .str m t])] := by rw [h]; exact rd_bad w
theorem ret_ans {h₀ h' : Heap} {L : Addr} {m : Str → Option Value} {news ns tl all : List (Addr × Obj)} {s : Shared} {Q : Value → Shared → Prop} {Out : Value → List (Addr × Obj) → Prop} {D : Addr} {o : Obj} {tk' : Nat}
    (ret : ∀ r tl h' tk', Fr h₀ L h' m → News h₀ L h' (tl ++ news) → (∀ q ∈ news, ∀ p ∈ tl, q.1 < p.1) → Out r tl → Q r { s with heap := h', toks := tk' })
    (ho : Out (.ref D) ((D, o) :: tl)) (F : Fr h₀ L h' m) (N : News h₀ L h' ns) (hD : (D, o) ∈ ns) (hall : ∀ p ∈ all, p ∈ ns) (ht : ∀ p ∈ tl, p ∈ all) (hs : ∀ q ∈ news, q ∈ all) (lD : ∀ p ∈ all, p.1 < D) (lt : ∀ q ∈ news, ∀ p ∈ tl, q.1 < p.1) : Q (.ref D) { s with heap := h', toks := tk' } := by
  refine ret _ ((D, o) :: tl) h' tk' F (cb_drop N (List.forall_mem_cons.mpr ⟨hD, fun p hp => hall p ?_⟩)) (fun q hq => List.forall_mem_cons.mpr ⟨lD q (hs q hq), lt q hq⟩) ho
  rcases List.mem_append.mp hp with z | z
  · exact ht p z
  · exact hs p z
-- LOCAL
local macro_rules | `(tactic| walk_at "noteFrame ref") => `(tactic| (k_here; k_dflt (refine' caught_XB ?k1 ?k2 ?k3 ?k4 ?k5 ?k6 ?k7 ?k8 ?_; (case k1 | k2 | k3 | k4 | k5 | k6 => assumption); (case k7 => k_is); (case k8 => kts_isx); k_whole; intro h8 g8 tk8 Z8 X8 T8; obtain ⟨K8, F8, B8, oe8, ws8, e81, e82, e83, e84, N8⟩ := Z8; (try dsimp only); (try k_fold))))
-- END LOCAL
set_option maxHeartbeats 8000000 in
theorem t_ans (w : World) (mean : ExcName → Option Value) (mg mb : Str → Option Value) (pt psz pwd phd : Addr) (s1 s2 s3 k1 k2 k3 k4 : Tok) (oA : Obj) (prs : List (Str × Value)) (W H l w0 w1 h0 h1 : Int) (hD : oA.IsDictOf (PySem.strKind PR w) prs) (hlo : (pt == sysModules) = false) (Z : PyData) (hC : CorO w mean mg mb prs W H l w0 w1 h0 h1 Z) :
    TellA w mean mg mb 20 335 [.ref pt, .ref psz, .ref pwd, .ref phd] [(pt, oA), (psz, tupO [.int W s1, .int H s2, .int l s3]), (pwd, tupO [.int w0 k1, .int w1 k2]), (phd, tupO [.int h0 k3, .int h1 k4])] (RdT w Z) := by
  intro dp un gd cn cs a ccd A₀ base h₀ L m news s Q E B F X N T hk hR hd hu XB TB hret
  have X := X
  have T := T
  have m0 := hR _ (List.Mem.head _)
  have m1 := hR _ (List.Mem.tail _ (List.Mem.head _))
  have m2 := hR _ (List.Mem.tail _ (List.Mem.tail _ (List.Mem.head _)))
  have m3 := hR _ (List.Mem.tail _ (List.Mem.tail _ (List.Mem.tail _ (List.Mem.head _))))
  clear hR
  refine wpAny_call ?_
  k_with_none
  k_dflt (refine' code_defS0 ?k1 ?k2 ?k3 ?k4 ?k5 ?kA ?k6 ?k7 ?k8 ?k9 ?kB ?_ ?cK ?c2 ?c3 ?c4 ?c5; (case kA => exact rfl); (case k2 => k_asm); (case k1 => k_asm); (case k3 => k_asm); (case k4 => k_asm); (case k5 => k_asm); (case k6 => k_is); (case k7 => k_is); (case k8 => ktr_room); (case k9 => first | exact BindsTo.of_eq rfl | exact binds_K (by k_in) rfl (by k_is) rfl rfl rfl); (case kB => exact locs rfl); (case cK => first | exact rfl | assumption); (case c2 => exact rfl); (case c3 => exact rfl); (case c4 => exact rfl); (case c5 => decide); k_whole; intro g' L' h' FG' F' N' B' X' T' D'; (try dsimp only); (try k_fold))
  repeat' ((fail_if_success (with_reducible show wpAny _ _ (call (Value.ref 250) _) _ _ _)); (first | (k_unfold; (try dsimp only)) | (k_end; wrow_close) | walk1 | (dsimp only; walk1)))
  k_here
  with_reducible apply at_ref 250
  k_dflt (apply tellO_use (hC _ _ _ _ _ _ _ _ _ _ _ _ _ _ _ _ _ _ _ _ _ _ _ _ _ _ _ _ _ _ _ ?kD ?kO); walk_at "my u"; walk_at "my uO"; (case kD => assumption); (case kO => assumption); (case' ret => intro r9 tl9 h9 tk9 F9 N9 hl9 ho9; obtain ⟨all9, z9⟩ := split_news hl9; clear hl9; rw [← z9.1] at N9; (try dsimp only); (try k_fold)))
  all_goals k_steps
  · with_reducible rename (∃ _, _ ∧ RdT _ _ _ _) => ho
    with_reducible rename SplitN _ _ _ => z
    have hs : ∀ q ∈ news, q ∈ _ := drop_trans (by walk_at "my keep") z.2.2.1
    exact ret_ans hret (rd_ans w ho) (by k_asm) (by assumption) (by k_mem) (by walk_at "my keep") z.2.1 hs (by assumption) (sub_lt z.2.2.2 (by walk_at "my keep"))
  · with_reducible rename (Z = badD _) => hb
    exact retL hret (rd_ansX w hb) (by k_asm) (by assumption) (by walk_at "my pre") (by walk_at "my keep") ⟨by walk_at "my lt2", trivial⟩
theorem reset_K3 : True := by
  w_top off
  trivial
theorem tellA_use {w : World} {mean : ExcName → Option Value} {mg mb : Str → Option Value} {n : Nat} {f : Addr} {vs : List Value} {pre : List (Addr × Obj)} {Out : Value → List (Addr × Obj) → Prop} (T0 : TellA w mean mg mb n f vs pre Out)
    {dp un : Nat} {gd : Option (List Code)} {cn : Str} {cs : Scope} {a : Addr} {ccd : Value} {A₀ : Around} {base h₀ : Heap} {L : Addr} {m : Str → Option Value} {news : List (Addr × Obj)} {s : Shared}
    {Q E : Value → Shared → Prop} (B : Below A₀ base [] h₀) (F : Fr h₀ L s.heap m) (X : (kv.heap_1 w.params).In h₀) (N : News h₀ L s.heap news) (T : Top VW LO mean mg mb h₀) (hk : cs.kind = .function) (hp : ∀ q ∈ pre, q ∈ news) (hd : dp + n < recursionLimit) (hu : un + 8 * n < cLine)
    (XB : (Mine.kv.heap_1 w.params).In base) (TB : Top VW LO mean mg mb base)
    (ret : ∀ r tl h' tk', Fr h₀ L h' m → News h₀ L h' (tl ++ news) → (∀ q ∈ news, ∀ p ∈ tl, q.1 < p.1) → Out r tl → Q r { s with heap := h', toks := tk' }) :
    wpAny (model PR w) (ktrTop dp un gd cn cs L a ccd [] []) (call (.ref f) vs) Q E s := T0 _ _ _ _ _ _ _ _ _ _ _ _ _ _ _ _ B F X N T hk hp hd hu XB TB ret
theorem reset_M1 : True := by
  w_top off
  trivial
theorem lenIs_of {w : World} {mean : ExcName → Option Value} {mg mb : Str → Option Value} {t : Str} {wv lv a b a' b' : Int} (e1 : a' = a) (e2 : b' = b) (h : LenIs w mean mg mb t wv lv a' b') : LenIs w mean mg mb t wv lv a b := by subst e1; subst e2; exact h
theorem enum_of (n : Nat) {P : Int → Prop} [DecidablePred P] (h : (List.range n).all (fun (i : Nat) => decide (P ((i : Int) + 1))) = true) {x : Int} (h1 : 1 ≤ x) (h2 : x ≤ (n : Int)) : P x := by
  have e := List.all_eq_true.mp h (x - 1).toNat (List.mem_range.mpr (by omega))
  have q : ((x - 1).toNat : Int) + 1 = x := by omega
  rw [q] at e
  exact of_decide_eq_true e
theorem len_r0 (w : World) (mean : ExcName → Option Value) (mg mb : Str → Option Value) (wv lv : Int) : LenIs w mean mg mb "5" wv lv (5) 1 :=
  lenIs_of (by decide +kernel) (by decide +kernel) fun kt pw pl k1 k2 k3 k4 => t_len0 w mean mg mb "5" "5" kt pw pl wv lv k1 k2 k3 k4 (5) 1 (fun kt => t_u0 w mean mg mb "5" kt (by decide +kernel) (by decide +kernel) (by decide +kernel)) (fun kt => t_rd0 w mean mg mb kt) (by decide) (by decide)
theorem len_r1 (w : World) (mean : ExcName → Option Value) (mg mb : Str → Option Value) (wv lv : Int) : LenIs w mean mg mb "2.5" wv lv (5) 2 :=
  lenIs_of (by decide +kernel) (by decide +kernel) fun kt pw pl k1 k2 k3 k4 => t_len0 w mean mg mb "2.5" "2.5" kt pw pl wv lv k1 k2 k3 k4 (5) 2 (fun kt => t_u0 w mean mg mb "2.5" kt (by decide +kernel) (by decide +kernel) (by decide +kernel)) (fun kt => t_rd1 w mean mg mb kt) (by decide) (by decide)
theorem len_r2 (w : World) (mean : ExcName → Option Value) (mg mb : Str → Option Value) (wv lv : Int) : LenIs w mean mg mb "0" wv lv (0) 1 :=
  lenIs_of (by decide +kernel) (by decide +kernel) fun kt pw pl k1 k2 k3 k4 => t_len0 w mean mg mb "0" "0" kt pw pl wv lv k1 k2 k3 k4 (0) 1 (fun kt => t_u0 w mean mg mb "0" kt (by decide +kernel) (by decide +kernel) (by decide +kernel)) (fun kt => t_rd2 w mean mg mb kt) (by decide) (by decide)
theorem len_r6 (w : World) (mean : ExcName → Option Value) (mg mb : Str → Option Value) (wv lv : Int) : LenIs w mean mg mb "-0" wv lv (0) 1 :=
  lenIs_of (by decide +kernel) (by decide +kernel) fun kt pw pl k1 k2 k3 k4 => t_len0 w mean mg mb "-0" "-0" kt pw pl wv lv k1 k2 k3 k4 (0) 1 (fun kt => t_u0 w mean mg mb "-0" kt (by decide +kernel) (by decide +kernel) (by decide +kernel)) (fun kt => t_rd6 w mean mg mb kt) (by decide) (by decide)
theorem len_r7 (w : World) (mean : ExcName → Option Value) (mg mb : Str → Option Value) (wv lv : Int) : LenIs w mean mg mb "1e3" wv lv (1000) 1 :=
  lenIs_of (by decide +kernel) (by decide +kernel) fun kt pw pl k1 k2 k3 k4 => t_len0 w mean mg mb "1e3" "1e3" kt pw pl wv lv k1 k2 k3 k4 (1000) 1 (fun kt => t_u0 w mean mg mb "1e3" kt (by decide +kernel) (by decide +kernel) (by decide +kernel)) (fun kt => t_rd7 w mean mg mb kt) (by decide) (by decide)
theorem len_r8 (w : World) (mean : ExcName → Option Value) (mg mb : Str → Option Value) (wv lv : Int) : LenIs w mean mg mb "-1.5" wv lv (-3) 2 :=
  lenIs_of (by decide +kernel) (by decide +kernel) fun kt pw pl k1 k2 k3 k4 => t_len0 w mean mg mb "-1.5" "-1.5" kt pw pl wv lv k1 k2 k3 k4 (-3) 2 (fun kt => t_u0 w mean mg mb "-1.5" kt (by decide +kernel) (by decide +kernel) (by decide +kernel)) (fun kt => t_rd8 w mean mg mb kt) (by decide) (by decide)
theorem len_r10 (w : World) (mean : ExcName → Option Value) (mg mb : Str → Option Value) (wv lv : Int) : LenIs w mean mg mb "1" wv lv (1) 1 :=
  lenIs_of (by decide +kernel) (by decide +kernel) fun kt pw pl k1 k2 k3 k4 => t_len0 w mean mg mb "1" "1" kt pw pl wv lv k1 k2 k3 k4 (1) 1 (fun kt => t_u0 w mean mg mb "1" kt (by decide +kernel) (by decide +kernel) (by decide +kernel)) (fun kt => t_rd10 w mean mg mb kt) (by decide) (by decide)
theorem len_r11 (w : World) (mean : ExcName → Option Value) (mg mb : Str → Option Value) (wv lv : Int) : LenIs w mean mg mb "2" wv lv (2) 1 :=
  lenIs_of (by decide +kernel) (by decide +kernel) fun kt pw pl k1 k2 k3 k4 => t_len0 w mean mg mb "2" "2" kt pw pl wv lv k1 k2 k3 k4 (2) 1 (fun kt => t_u0 w mean mg mb "2" kt (by decide +kernel) (by decide +kernel) (by decide +kernel)) (fun kt => t_rd11 w mean mg mb kt) (by decide) (by decide)
theorem len_r4 (w : World) (mean : ExcName → Option Value) (mg mb : Str → Option Value) (wv lv : Int) : LenIs w mean mg mb "3pt" wv lv 4 1 :=
  lenIs_of (by decide +kernel) (by decide +kernel) fun kt pw pl k1 k2 k3 k4 => t_lenPt w mean mg mb "3pt" "3" kt pw pl wv lv k1 k2 k3 k4 3 1 (fun kt => t_u1 w mean mg mb kt) (fun kt => t_rd4 w mean mg mb kt) (by decide) (by decide)
theorem len_r5 (w : World) (mean : ExcName → Option Value) (mg mb : Str → Option Value) (wv lv : Int) (h : 1 ≤ lv ∧ lv ≤ 20) : LenIs w mean mg mb ".5em" wv lv (fr1 lv 2) (fr2 lv 2) :=
  lenIs_of (by rw [show (1 : Int) * lv = lv from Int.one_mul lv]; rfl) (by rw [show (1 : Int) * lv = lv from Int.one_mul lv]; rfl) fun kt pw pl k1 k2 k3 k4 => t_lenEm w mean mg mb ".5em" ".5" kt pw pl wv lv k1 k2 k3 k4 1 2 (fun kt => t_u2 w mean mg mb kt) (fun kt => t_rd5 w mean mg mb kt) (by decide) (by decide) (by omega)
theorem pc_30 {wv : Int} (h1 : 1 ≤ wv) (h2 : wv ≤ 40) : (0 < fr2 (30 * wv) (1 * 1) ∧ fr2 (30 * wv) (1 * 1) < 10000) ∧ fr1 (fr1 (30 * wv) (1 * 1) * 1) (fr2 (30 * wv) (1 * 1) * 100) = fr1 (3 * wv) 10 ∧ fr2 (fr1 (30 * wv) (1 * 1) * 1) (fr2 (30 * wv) (1 * 1) * 100) = fr2 (3 * wv) 10 :=
  enum_of 40 (P := fun wv => (0 < fr2 (30 * wv) (1 * 1) ∧ fr2 (30 * wv) (1 * 1) < 10000) ∧ fr1 (fr1 (30 * wv) (1 * 1) * 1) (fr2 (30 * wv) (1 * 1) * 100) = fr1 (3 * wv) 10 ∧ fr2 (fr1 (30 * wv) (1 * 1) * 1) (fr2 (30 * wv) (1 * 1) * 100) = fr2 (3 * wv) 10) (by decide +kernel) h1 h2
theorem pc_m2 {wv : Int} (h1 : 1 ≤ wv) (h2 : wv ≤ 40) : (0 < fr2 (-2 * wv) (1 * 1) ∧ fr2 (-2 * wv) (1 * 1) < 10000) ∧ fr1 (fr1 (-2 * wv) (1 * 1) * 1) (fr2 (-2 * wv) (1 * 1) * 100) < 0 ∧ 0 < fr2 (fr1 (-2 * wv) (1 * 1) * 1) (fr2 (-2 * wv) (1 * 1) * 100) ∧ fr2 (fr1 (-2 * wv) (1 * 1) * 1) (fr2 (-2 * wv) (1 * 1) * 100) < 1073741824 :=
  enum_of 40 (P := fun wv => (0 < fr2 (-2 * wv) (1 * 1) ∧ fr2 (-2 * wv) (1 * 1) < 10000) ∧ fr1 (fr1 (-2 * wv) (1 * 1) * 1) (fr2 (-2 * wv) (1 * 1) * 100) < 0 ∧ 0 < fr2 (fr1 (-2 * wv) (1 * 1) * 1) (fr2 (-2 * wv) (1 * 1) * 100) ∧ fr2 (fr1 (-2 * wv) (1 * 1) * 1) (fr2 (-2 * wv) (1 * 1) * 100) < 1073741824) (by decide +kernel) h1 h2
theorem len_r3 (w : World) (mean : ExcName → Option Value) (mg mb : Str → Option Value) (wv lv : Int) (h : 1 ≤ wv ∧ wv ≤ 40) : LenIs w mean mg mb "30%" wv lv (fr1 (3 * wv) 10) (fr2 (3 * wv) 10) :=
  lenIs_of (pc_30 h.1 h.2).2.1 (pc_30 h.1 h.2).2.2 fun kt pw pl k1 k2 k3 k4 => t_lenPc w mean mg mb "30%" "30" kt pw pl wv lv k1 k2 k3 k4 30 1 (fun kt => t_u3 w mean mg mb kt) (fun kt => t_rd3 w mean mg mb kt) (by decide) (by decide) (by omega) (pc_30 h.1 h.2).1
theorem len_r9 (w : World) (mean : ExcName → Option Value) (mg mb : Str → Option Value) (wv lv : Int) (h : 1 ≤ wv ∧ wv ≤ 40) : LenIs w mean mg mb "-2%" wv lv (fr1 (fr1 (-2 * wv) (1 * 1) * 1) (fr2 (-2 * wv) (1 * 1) * 100)) (fr2 (fr1 (-2 * wv) (1 * 1) * 1) (fr2 (-2 * wv) (1 * 1) * 100)) :=
  fun kt pw pl k1 k2 k3 k4 => t_lenPc w mean mg mb "-2%" "-2" kt pw pl wv lv k1 k2 k3 k4 (-2) 1 (fun kt => t_u4 w mean mg mb kt) (fun kt => t_rd9 w mean mg mb kt) (by decide) (by decide) (by omega) (pc_m2 h.1 h.2).1
theorem len_bA (w : World) (mean : ExcName → Option Value) (mg mb : Str → Option Value) (wv lv : Int) : LenBad w mean mg mb "auto" wv lv "no length: auto" :=
  fun kt pw pl k1 k2 k3 k4 => t_lenX w mean mg mb "auto" kt pw pl wv lv k1 k2 k3 k4 _ _ (fun kt => t_u0 w mean mg mb "auto" kt (by decide +kernel) (by decide +kernel) (by decide +kernel)) (fun kt => t_rdA w mean mg mb kt) (by decide +kernel) (by decide +kernel)
theorem len_bE (w : World) (mean : ExcName → Option Value) (mg mb : Str → Option Value) (wv lv : Int) : LenBad w mean mg mb "" wv lv "no length: " :=
  fun kt pw pl k1 k2 k3 k4 => t_lenX w mean mg mb "" kt pw pl wv lv k1 k2 k3 k4 _ _ (fun kt => t_u0 w mean mg mb "" kt (by decide +kernel) (by decide +kernel) (by decide +kernel)) (fun kt => t_rdE w mean mg mb kt) (by decide +kernel) (by decide +kernel)
theorem reset_G1 : True := by
  w_top off
  trivial
/-- the rows of the law's menu: text, value, fault -/
def menu (name : Str) (w l : Int) : List (Str × Int × Int × Str) :=
  [("5", 5, 1, ""), ("2.5", 5, 2, ""), ("0", 0, 1, ""), ("30%", fr1 (3 * w) 10, fr2 (3 * w) 10, ""), ("3pt", 4, 1, ""), (".5em", fr1 l 2, fr2 l 2, ""), ("-0", 0, 1, ""), ("1e3", 1000, 1, ""),
   ("-1.5", 0, 1, name ++ " is below nought"), ("-2%", 0, 1, name ++ " is below nought"), ("auto", 0, 1, "no length: auto"), ("", 0, 1, "no length: ")]
theorem slice_at {prog : Program} {w : World} {A : Around} {E : Value → Shared → Prop} {h : Heap} {gs : Array GenState} {dr : Drawn} {tk : Nat} {os : OsState} {h₀ : Heap} {L l : Addr} {m : Str → Option Value} {news : List (Addr × Obj)} {value slice : PySem.Expr} {its : Array Value} {zs : List Value} {vl vu : Value} {lo hi : Option Int} {Q : Value → Shared → Prop}
    (F : Fr h₀ L h m) (N : News h₀ L h news) (hl : h.IsList l its) (pl : IsPart vl lo) (pu : IsPart vu hi) (e : kms_pick its.toList lo hi = zs)
    (k : ∀ D h', Fr h₀ L h' m → News h₀ L h' ((D, listOf zs.toArray 0) :: news) → (∀ p ∈ news, p.1 < D) → Q (.ref D) { heap := h', gens := gs, drawn := dr, toks := tk, os := os })
    (hs : subscripted slice false (.ref l) (.ref h.objs.size) = operate [.ref h.objs.size, .ref l] (getItem (.ref l) (.ref h.objs.size))) (ht : ∀ r, letTemporaryGo value (.ref l) r = pure ()) (hz : its.size ≤ sizeLine) :
    wpAny (model prog w) A (subscriptTail value slice (.ref l) (.ref h.objs.size)) Q E { heap := h.push { cls := .type "slice", data := .fields #[vl, vu, .none] }, gens := gs, drawn := dr, toks := tk, os := os } :=
  kms_slice_lit (s := { heap := h, gens := gs, drawn := dr, toks := tk, os := os }) F N hl pl pu e k hs ht hz
theorem pick_mem {α : Type} {l : List α} {k : Nat} {r : α} (h : l[k]? = some r) : r ∈ l := List.mem_of_getElem? h
def rowOut (name : Str) (W l : Int) (r : Value) (tl : List (Addr × Obj)) (o' : Obj) : Prop :=
  ∃ (t f : Str) (a b : Int) (p q : Addr) (t0 t1 t2 t3 : Tok) (x' y' : Int) (tx' ty' : Tok) (n' : Nat), (t, a, b, f) ∈ menu name W l ∧ r = .ref p ∧ tl = [(p, tupO [.str t t0, .ref q, .str f t1]), (q, tupO [.int a t2, .int b t3])] ∧ o' = srcO x' y' tx' ty' n' ∧ 0 ≤ x' ∧ 0 ≤ y' ∧ y' < 2147483647
theorem up_lt {ps D : Addr} {o : Obj} {news oth : List (Addr × Obj)} (ho3 : ∀ p ∈ news, p.1 ≠ ps → p ∈ oth) (h : ps < D ∧ AllLt D oth) : ∀ q ∈ news, q.1 < D := by
  intro q hq
  by_cases e : q.1 = ps
  · rw [e]; exact h.1
  · exact ktn_ltOf h.2 q (ho3 q hq e)
theorem retRow {h₀ h' : Heap} {L : Addr} {m : Str → Option Value} {news ns oth : List (Addr × Obj)} {nw : Obj → List (Addr × Obj)} {s : Shared} {Q : Value → Shared → Prop} {tk' : Nat} {ps p q : Addr} {name t f : Str} {W l a b x' y' : Int} {t0 t1 t2 t3 tx' ty' : Tok} {n' : Nat}
    (ret : ∀ r tl o' h' tk', Fr h₀ L h' m → News h₀ L h' (tl ++ nw o') → (∀ q ∈ news, ∀ p ∈ tl, q.1 < p.1) → rowOut name W l r tl o' → Q r { s with heap := h', toks := tk' })
    (ho3 : ∀ p ∈ news, p.1 ≠ ps → p ∈ oth) (ho4 : ∀ o', ∀ p ∈ nw o', p ∈ (ps, o') :: oth) (F : Fr h₀ L h' m) (N : News h₀ L h' ns) (h1 : (p, tupO [.str t t0, .ref q, .str f t1]) ∈ ns) (h2 : (q, tupO [.int a t2, .int b t3]) ∈ ns) (h3 : (ps, srcO x' y' tx' ty' n') ∈ ns) (hs : ∀ z ∈ oth, z ∈ ns)
    (l1 : ps < p ∧ AllLt p oth) (l2 : ps < q ∧ AllLt q oth) (hm : (t, a, b, f) ∈ menu name W l) (hx : 0 ≤ x') (hy : 0 ≤ y') (hy' : y' < 2147483647) : Q (.ref p) { s with heap := h', toks := tk' } := by
  refine ret (.ref p) [(p, tupO [.str t t0, .ref q, .str f t1]), (q, tupO [.int a t2, .int b t3])] (srcO x' y' tx' ty' n') h' tk' F (cb_drop N ?_) ?_ ⟨_, _, _, _, _, _, _, _, _, _, _, _, _, _, _, hm, rfl, rfl, rfl, hx, hy, hy'⟩
  · intro z hz
    rcases List.mem_cons.mp hz with e | hz
    · exact e ▸ h1
    rcases List.mem_cons.mp hz with e | hz
    · exact e ▸ h2
    rcases List.mem_cons.mp (ho4 _ z hz) with e | hz
    · exact e ▸ h3
    exact hs z hz
  · intro z hz y hy
    rcases List.mem_cons.mp hy with e | hy
    · rw [e]; exact up_lt (o := srcO x' y' tx' ty' n') ho3 l1 z hz
    rcases List.mem_cons.mp hy with e | hy
    · rw [e]; exact up_lt (o := srcO x' y' tx' ty' n') ho3 l2 z hz
    exact nomatch hy
theorem menuX (w l : Int) : menu "rx" w l = ([("5", 5, 1, ""), ("2.5", 5, 2, ""), ("0", 0, 1, ""), ("30%", fr1 (3 * w) 10, fr2 (3 * w) 10, ""), ("3pt", 4, 1, ""), (".5em", fr1 l 2, fr2 l 2, ""), ("-0", 0, 1, ""), ("1e3", 1000, 1, ""), ("-1.5", 0, 1, "rx is below nought"), ("-2%", 0, 1, "rx is below nought"), ("auto", 0, 1, "no length: auto"), ("", 0, 1, "no length: ")] : List (Str × Int × Int × Str)) := by
  have e : ("rx" : Str) ++ " is below nought" = "rx is below nought" := by decide +kernel
  unfold menu
  rw [e]
theorem menuY (w l : Int) : menu "ry" w l = ([("5", 5, 1, ""), ("2.5", 5, 2, ""), ("0", 0, 1, ""), ("30%", fr1 (3 * w) 10, fr2 (3 * w) 10, ""), ("3pt", 4, 1, ""), (".5em", fr1 l 2, fr2 l 2, ""), ("-0", 0, 1, ""), ("1e3", 1000, 1, ""), ("-1.5", 0, 1, "ry is below nought"), ("-2%", 0, 1, "ry is below nought"), ("auto", 0, 1, "no length: auto"), ("", 0, 1, "no length: ")] : List (Str × Int × Int × Str)) := by
  have e : ("ry" : Str) ++ " is below nought" = "ry is below nought" := by decide +kernel
  unfold menu
  rw [e]
theorem pick8 {t1 t2 t3 t4 : Tok} {r : Value} {k : Nat} (h : [Value.int 8 t1, .int 8 t2, .int 8 t3, .int 12 t4][k]? = some r) : ∃ (c : Int) (t : Tok), r = .int c t ∧ (c = 8 ∨ c = 12) := by
  have := List.mem_of_getElem? h
  simp only [List.mem_cons, List.not_mem_nil, or_false] at this
  rcases this with e | e | e | e
  · exact ⟨_, _, e, .inl rfl⟩
  · exact ⟨_, _, e, .inl rfl⟩
  · exact ⟨_, _, e, .inl rfl⟩
  · exact ⟨_, _, e, .inr rfl⟩
def RowIn (ps : Addr) (news oth : List (Addr × Obj)) (name : Str) (W l : Int) (r : Value) : Prop := ∃ (t f : Str) (a b : Int) (p q : Addr) (t0 t1 t2 t3 : Tok), r = .ref p ∧ (p, tupO [.str t t0, .ref q, .str f t1]) ∈ news ∧ (q, tupO [.int a t2, .int b t3]) ∈ news ∧ (t, a, b, f) ∈ menu name W l ∧ (ps < p ∧ AllLt p oth) ∧ (ps < q ∧ AllLt q oth)
theorem rowIn {ps : Addr} {news oth : List (Addr × Obj)} {name t f : Str} {W l a b : Int} {p q : Addr} {t0 t1 t2 t3 : Tok} (h1 : (p, tupO [.str t t0, .ref q, .str f t1]) ∈ news) (h2 : (q, tupO [.int a t2, .int b t3]) ∈ news) (hm : (t, a, b, f) ∈ menu name W l) (l1 : ps < p ∧ AllLt p oth) (l2 : ps < q ∧ AllLt q oth) : RowIn ps news oth name W l (.ref p) := ⟨_, _, _, _, _, _, _, _, _, _, rfl, h1, h2, hm, l1, l2⟩
theorem RowIn.mono {ps : Addr} {a b oth : List (Addr × Obj)} {name : Str} {W l : Int} {r : Value} (h : RowIn ps a oth name W l r) (hs : ∀ z ∈ a, z ∈ b) : RowIn ps b oth name W l r := by
  obtain ⟨t, f, x, y, p, q, t0, t1, t2, t3, e, h1, h2, hm, l1, l2⟩ := h
  exact ⟨t, f, x, y, p, q, t0, t1, t2, t3, e, hs _ h1, hs _ h2, hm, l1, l2⟩
theorem lt_sub {ps p : Addr} {a oth : List (Addr × Obj)} (h : ps < p ∧ AllLt p a) (hs : ∀ z ∈ oth, z ∈ a) : ps < p ∧ AllLt p oth := ⟨h.1, allLt_of fun z hz => ktn_ltOf h.2 z (hs z hz)⟩
theorem mem_up {k : Addr × Obj} {a b : List (Addr × Obj)} (h : k ∈ a) (hs : ∀ z ∈ a, z ∈ b) : k ∈ b := hs k h
theorem pack {h₀ h : Heap} {L ps : Addr} {src : Obj} {k : Addr × Obj} {rs : List Value} {news oth : List (Addr × Obj)} {name : Str} {W l : Int} (N : News h₀ L h news) (hs : (ps, src) ∈ news) (ho : ∀ z ∈ oth, z ∈ news) (ho2 : ∀ z ∈ oth, z.1 ≠ ps) (hk : k ∈ news) (nk : k.1 ≠ ps) (hR : ∀ r ∈ rs, RowIn ps news oth name W l r) :
    ∃ all, News h₀ L h ((ps, src) :: all) ∧ (∀ z ∈ all, z.1 ≠ ps) ∧ (∀ z ∈ oth, z ∈ all) ∧ k ∈ all ∧ ∀ r ∈ rs, RowIn ps all oth name W l r := by
  refine ⟨news.filter fun p => decide (p.1 ≠ ps), cb_drop N (List.forall_mem_cons.mpr ⟨hs, fun p hp => (List.mem_filter.mp hp).1⟩), fun p hp => of_decide_eq_true (List.mem_filter.mp hp).2, fun z hz => List.mem_filter.mpr ⟨ho z hz, decide_eq_true (ho2 z hz)⟩, List.mem_filter.mpr ⟨hk, decide_eq_true nk⟩, ?_⟩
  intro r hr
  obtain ⟨t, f, a, b, p, q, t0, t1, t2, t3, e, h1, h2, hm, l1, l2⟩ := hR r hr
  exact ⟨t, f, a, b, p, q, t0, t1, t2, t3, e, List.mem_filter.mpr ⟨h1, decide_eq_true (Nat.ne_of_gt l1.1)⟩, List.mem_filter.mpr ⟨h2, decide_eq_true (Nat.ne_of_gt l2.1)⟩, hm, l1, l2⟩
theorem rows_pack {h₀ h : Heap} {L ps pr : Addr} {src : Obj} {rs : List Value} {n : Nat} {news oth : List (Addr × Obj)} {name : Str} {W l : Int} (N : News h₀ L h news) (hs : (ps, src) ∈ news) (hr : (pr, listOf rs.toArray n) ∈ news) (ho : ∀ z ∈ oth, z ∈ news) (ho2 : ∀ z ∈ oth, z.1 ≠ ps) (hR : ∀ r ∈ rs, RowIn ps news oth name W l r) :
    ∃ all, News h₀ L h ((pr, listOf rs.toArray n) :: (ps, src) :: all) ∧ (∀ z ∈ all, z.1 ≠ ps) ∧ (∀ z ∈ oth, z ∈ all) ∧ ∀ r ∈ rs, RowIn ps all oth name W l r := by
  refine ⟨news.filter fun p => decide (p.1 ≠ ps), cb_drop N (List.forall_mem_cons.mpr ⟨hr, List.forall_mem_cons.mpr ⟨hs, fun p hp => (List.mem_filter.mp hp).1⟩⟩), fun p hp => of_decide_eq_true (List.mem_filter.mp hp).2, fun z hz => List.mem_filter.mpr ⟨ho z hz, decide_eq_true (ho2 z hz)⟩, ?_⟩
  intro r hr
  obtain ⟨t, f, a, b, p, q, t0, t1, t2, t3, e, h1, h2, hm, l1, l2⟩ := hR r hr
  exact ⟨t, f, a, b, p, q, t0, t1, t2, t3, e, List.mem_filter.mpr ⟨h1, decide_eq_true (Nat.ne_of_gt l1.1)⟩, List.mem_filter.mpr ⟨h2, decide_eq_true (Nat.ne_of_gt l2.1)⟩, hm, l1, l2⟩
-- LOCAL
local macro_rules | `(tactic| walk_at "subscriptTail Name Slice ref ref") => `(tactic| (k_here; k_dflt (refine' slice_at ?zF ?zN ?zl ?zp ?zq ?ze ?_ ?zs ?zt ?zz; (case zF | zN => k_asm); (case zl => kmk_list); (case zp | zq => kmk_part); (case ze => kl_lit); (case zs => with_unfolding_all rfl); (case zt => kmk_pure); (case zz => kmk_size); (intro D' h' F' N' l1; (try k_lt l1); (try k_sweep)))))
-- END LOCAL
theorem mN0 {name low : Str} (e : name ++ " is below nought" = low) (w l : Int) : (("5", 5, 1, "") : Str × Int × Int × Str) ∈ menu name w l := by subst e; exact List.mem_of_getElem? (i := 0) rfl
theorem mN1 {name low : Str} (e : name ++ " is below nought" = low) (w l : Int) : (("2.5", 5, 2, "") : Str × Int × Int × Str) ∈ menu name w l := by subst e; exact List.mem_of_getElem? (i := 1) rfl
theorem mN2 {name low : Str} (e : name ++ " is below nought" = low) (w l : Int) : (("0", 0, 1, "") : Str × Int × Int × Str) ∈ menu name w l := by subst e; exact List.mem_of_getElem? (i := 2) rfl
theorem mN3 {name low : Str} (e : name ++ " is below nought" = low) (w l : Int) : (("30%", fr1 (3 * w) 10, fr2 (3 * w) 10, "") : Str × Int × Int × Str) ∈ menu name w l := by subst e; exact List.mem_of_getElem? (i := 3) rfl
theorem mN4 {name low : Str} (e : name ++ " is below nought" = low) (w l : Int) : (("3pt", 4, 1, "") : Str × Int × Int × Str) ∈ menu name w l := by subst e; exact List.mem_of_getElem? (i := 4) rfl
theorem mN5 {name low : Str} (e : name ++ " is below nought" = low) (w l : Int) : ((".5em", fr1 l 2, fr2 l 2, "") : Str × Int × Int × Str) ∈ menu name w l := by subst e; exact List.mem_of_getElem? (i := 5) rfl
theorem mN6 {name low : Str} (e : name ++ " is below nought" = low) (w l : Int) : (("-0", 0, 1, "") : Str × Int × Int × Str) ∈ menu name w l := by subst e; exact List.mem_of_getElem? (i := 6) rfl
theorem mN7 {name low : Str} (e : name ++ " is below nought" = low) (w l : Int) : (("1e3", 1000, 1, "") : Str × Int × Int × Str) ∈ menu name w l := by subst e; exact List.mem_of_getElem? (i := 7) rfl
theorem mN8 {name low : Str} (e : name ++ " is below nought" = low) (w l : Int) : (("-1.5", 0, 1, low) : Str × Int × Int × Str) ∈ menu name w l := by subst e; exact List.mem_of_getElem? (i := 8) rfl
theorem mN9 {name low : Str} (e : name ++ " is below nought" = low) (w l : Int) : (("-2%", 0, 1, low) : Str × Int × Int × Str) ∈ menu name w l := by subst e; exact List.mem_of_getElem? (i := 9) rfl
theorem mN10 {name low : Str} (e : name ++ " is below nought" = low) (w l : Int) : (("auto", 0, 1, "no length: auto") : Str × Int × Int × Str) ∈ menu name w l := by subst e; exact List.mem_of_getElem? (i := 10) rfl
theorem mN11 {name low : Str} (e : name ++ " is below nought" = low) (w l : Int) : (("", 0, 1, "no length: ") : Str × Int × Int × Str) ∈ menu name w l := by subst e; exact List.mem_of_getElem? (i := 11) rfl
set_option maxHeartbeats 8000000 in
theorem t_length (w : World) (mean : ExcName → Option Value) (mg mb : Str → Option Value) (ps pz : Addr) (x y : Int) (tx ty kn s1 s2 s3 : Tok) (n : Nat) (W H l Wn : Int) (name low : Str) (hx : 0 ≤ x) (hy : 0 ≤ y ∧ y < 2147483647) (hWn : [W, H, l].getD (if (name == ("ry" : Str)) = true then (1 : Int) else 0).toNat 0 = Wn) (hn : name.length < 60) (hlow : name ++ " is below nought" = low) (hW : 1 ≤ Wn ∧ Wn ≤ 40) (hl : 1 ≤ l ∧ l ≤ 20) :
    TellU w mean mg mb 10 314 [.ref ps, .str name kn, .ref pz] ps (srcO x y tx ty n) [(pz, tupO [.int W s1, .int H s2, .int l s3])] (rowOut name Wn l) := by
  intro dp un gd cn cs a ccd cl outer A₀ base h₀ L m news nw s Q E B F X N T hk hU hR hd hu hret
  obtain ⟨oth, ho1, ho2, ho3, ho4⟩ := upd_open hU
  have hl0 := hR _ (List.Mem.head _)
  have ml := ho3 _ hl0.1 hl0.2
  replace N := cb_drop N ho1
  refine wpAny_call ?_
  k_with_none
  k_dflt walk_at "my enter"
  repeat' ((fail_if_success (with_reducible show wpAny _ _ (call (Value.ref 307) _) _ _ _)); (first | (k_unfold; (try dsimp only)) | walk1 | (dsimp only; walk1)))
  simp only [hWn] at *
  with_reducible rename News _ _ _ _ => NN
  obtain ⟨all1, N1, a1, b1, c1, r1⟩ := pack (name := name) (W := Wn) (l := l) (rs := [.ref _, .ref _, .ref _]) (k := (_, tupO [.int 0 _, .int 1 _])) NN (by k_mem) (by walk_at "my keep") ho2 (by k_mem) (by k_ne) (List.forall_mem_cons.mpr ⟨rowIn (by k_mem) (by k_mem) (mN0 hlow _ _) (by walk_at "my lt2") (by walk_at "my lt2"), List.forall_mem_cons.mpr ⟨rowIn (by k_mem) (by k_mem) (mN1 hlow _ _) (by walk_at "my lt2") (by walk_at "my lt2"), List.forall_mem_cons.mpr ⟨rowIn (by k_mem) (by k_mem) (mN2 hlow _ _) (by walk_at "my lt2") (by walk_at "my lt2"), List.forall_mem_nil _⟩⟩⟩)
  clear NN
  walk1
  all_goals try ((fail_if_success intro z); omega)
  repeat' ((fail_if_success (with_reducible show wpAny _ _ (call (Value.ref 307) _) _ _ _)); (first | (k_unfold; (try dsimp only)) | walk1 | (dsimp only; walk1)))
  with_reducible rename News _ _ _ _ => NN
  obtain ⟨all2, N2, a2, b2, c2, r2⟩ := pack (name := name) (W := Wn) (l := l) (rs := [.ref _, .ref _, .ref _, .ref _, .ref _]) NN (by k_mem) (drop_trans b1 (by walk_at "my keep")) ho2 (mem_up c1 (by walk_at "my keep")) (a1 _ c1) (List.forall_mem_cons.mpr ⟨RowIn.mono (r1 _ (List.mem_of_getElem? (i := 0) rfl)) (by walk_at "my keep"), List.forall_mem_cons.mpr ⟨RowIn.mono (r1 _ (List.mem_of_getElem? (i := 1) rfl)) (by walk_at "my keep"), List.forall_mem_cons.mpr ⟨RowIn.mono (r1 _ (List.mem_of_getElem? (i := 2) rfl)) (by walk_at "my keep"), List.forall_mem_cons.mpr ⟨rowIn (by k_mem) (by k_mem) (mN3 hlow _ _) (lt_sub (by walk_at "my lt2") b1) (lt_sub (by walk_at "my lt2") b1), List.forall_mem_cons.mpr ⟨rowIn (by k_mem) (by k_mem) (mN4 hlow _ _) (lt_sub (by walk_at "my lt2") b1) (lt_sub (by walk_at "my lt2") b1), List.forall_mem_nil _⟩⟩⟩⟩⟩)
  clear NN
  walk1
  all_goals try ((fail_if_success intro z); omega)
  repeat' ((fail_if_success (with_reducible show wpAny _ _ (call (Value.ref 300) _) _ _ _)); (first | (k_unfold; (try dsimp only)) | walk1 | (dsimp only; walk1)))
  walk1
  obtain ⟨c, tc, e, hc⟩ := pick8 (by assumption)
  subst e
  with_reducible rename News _ _ _ _ => NN
  have pk := rows_pack (name := name) (W := Wn) (l := l) (rs := [_, _, _, _, _, _, _, _, _, _, _, _]) NN (by k_mem) (by k_mem) (drop_trans b2 (by walk_at "my keep")) ho2
  obtain ⟨all, NN', hall, hoth, hrows⟩ := pk (List.forall_mem_cons.mpr ⟨RowIn.mono (r2 _ (List.mem_of_getElem? (i := 0) rfl)) (by walk_at "my keep"), List.forall_mem_cons.mpr ⟨RowIn.mono (r2 _ (List.mem_of_getElem? (i := 1) rfl)) (by walk_at "my keep"), List.forall_mem_cons.mpr ⟨RowIn.mono (r2 _ (List.mem_of_getElem? (i := 2) rfl)) (by walk_at "my keep"), List.forall_mem_cons.mpr ⟨RowIn.mono (r2 _ (List.mem_of_getElem? (i := 3) rfl)) (by walk_at "my keep"), List.forall_mem_cons.mpr ⟨RowIn.mono (r2 _ (List.mem_of_getElem? (i := 4) rfl)) (by walk_at "my keep"), List.forall_mem_cons.mpr ⟨rowIn (by k_mem) (by k_mem) (mN5 hlow _ _) (lt_sub (by walk_at "my lt2") b2) (lt_sub (by walk_at "my lt2") b2), List.forall_mem_cons.mpr ⟨rowIn (by k_mem) (by k_mem) (mN6 hlow _ _) (lt_sub (by walk_at "my lt2") b2) (by walk_at "my lt2"), List.forall_mem_cons.mpr ⟨rowIn (by k_mem) (by k_mem) (mN7 hlow _ _) (lt_sub (by walk_at "my lt2") b2) (lt_sub (by walk_at "my lt2") b2), List.forall_mem_cons.mpr ⟨rowIn (by k_mem) (by k_mem) (mN8 hlow _ _) (lt_sub (by walk_at "my lt2") b2) (by walk_at "my lt2"), List.forall_mem_cons.mpr ⟨rowIn (by k_mem) (by k_mem) (mN9 hlow _ _) (lt_sub (by walk_at "my lt2") b2) (by walk_at "my lt2"), List.forall_mem_cons.mpr ⟨rowIn (by k_mem) (by k_mem) (mN10 hlow _ _) (lt_sub (by walk_at "my lt2") b2) (by walk_at "my lt2"), List.forall_mem_cons.mpr ⟨rowIn (by k_mem) (by k_mem) (mN11 hlow _ _) (lt_sub (by walk_at "my lt2") b2) (by walk_at "my lt2"), List.forall_mem_nil _⟩⟩⟩⟩⟩⟩⟩⟩⟩⟩⟩⟩)
  clear pk NN
  rcases hc with rfl | rfl
  all_goals k_steps
  · obtain ⟨t9, f9, a9, b9, p9, q9, u0, u1, u2, u3, e9, i1, i2, i3, l1, l2⟩ := hrows _ (List.mem_of_mem_take (i := 8) (pick_mem ‹_[_]? = some _›))
    subst e9
    refine' retRow (by assumption) ho3 ho4 (by k_asm) (by assumption) ?zh1 ?zh2 ?zh3 ?zhs l1 l2 i3 ?zx ?zy ?zz
    (case zh1 => k_mem); (case zh2 => k_mem); (case zh3 => k_mem); (case zx => assumption); (case zy => assumption); (case zz => assumption); (case zhs => exact drop_trans hoth (by walk_at "my keep"))
  · obtain ⟨t9, f9, a9, b9, p9, q9, u0, u1, u2, u3, e9, i1, i2, i3, l1, l2⟩ := hrows _ (List.mem_of_mem_take (i := 12) (pick_mem ‹_[_]? = some _›))
    subst e9
    refine' retRow (by assumption) ho3 ho4 (by k_asm) (by assumption) ?zh1 ?zh2 ?zh3 ?zhs l1 l2 i3 ?zx ?zy ?zz
    (case zh1 => k_mem); (case zh2 => k_mem); (case zh3 => k_mem); (case zx => assumption); (case zy => assumption); (case zz => assumption); (case zhs => exact drop_trans hoth (by walk_at "my keep"))
theorem reset_P1 : True := by
  w_top off
  trivial
theorem fr_mul {x y : Int} (hy : 0 < y) : ∃ g : Int, 0 < g ∧ fr1 x y * g = x ∧ fr2 x y * g = y := by
  have hg := (gcd_facts (x := x) hy).1
  refine ⟨(Int.gcd x y : Int), hg, ?_, ?_⟩
  · show Int.fdiv x (Int.gcd x y) * _ = x
    rw [Int.fdiv_eq_ediv_of_nonneg x (Int.le_of_lt hg)]
    exact Int.ediv_mul_cancel (Int.gcd_dvd_left ..)
  · show Int.fdiv y (Int.gcd x y) * _ = y
    rw [Int.fdiv_eq_ediv_of_nonneg y (Int.le_of_lt hg)]
    exact Int.ediv_mul_cancel (Int.gcd_dvd_right ..)
/-- the lesser of a told length and the half of a side, as the law cuts it -/
theorem lstH_is {a b x y : Int} (hy : 0 < y) : lstH a b x y = if 2 * a * y ≤ x * b then (a, b) else (fr1 x (2 * y), fr2 x (2 * y)) := by
  obtain ⟨g, hg, e1, e2⟩ := fr_mul (x := x * 1) (y := y * 2) (by omega)
  have k : (fr1 (x * 1) (y * 2) * b - a * fr2 (x * 1) (y * 2)) * g = x * b - 2 * a * y := by
    rw [Int.sub_mul, Int.mul_right_comm, e1, Int.mul_assoc a, e2, Int.mul_one, ← Int.mul_assoc, Int.mul_comm (a * y) 2, Int.mul_assoc 2]
  have q : (x * 1 : Int) = x := Int.mul_one x
  have q2 : (y * 2 : Int) = 2 * y := Int.mul_comm y 2
  show lst _ _ _ _ = _
  by_cases c : fr1 (x * 1) (y * 2) * b - a * fr2 (x * 1) (y * 2) < 0
  · have : x * b - 2 * a * y < 0 := by rw [← k]; exact Int.mul_neg_of_neg_of_pos c hg
    rw [lst_pos c, if_neg (by omega), q, q2]
  · have : 0 ≤ x * b - 2 * a * y := by rw [← k]; exact Int.mul_nonneg (by omega) (Int.le_of_lt hg)
    rw [lst_neg c, if_pos (by omega)]
theorem reset_P2 : True := by
  w_top off
  trivial
theorem sz40 {z : Int} (h0 : 0 ≤ z) (h1 : z < 40) : 1 ≤ 1 + z ∧ 1 + z ≤ 40 := ⟨by omega, by omega⟩
theorem sz20 {z : Int} (h0 : 0 ≤ z) (h1 : z < 20) : 1 ≤ 1 + z ∧ 1 + z ≤ 20 := ⟨by omega, by omega⟩
theorem side_e (k : Int) (h : (List.range 41).all (fun (i : Nat) => decide ((fun x => (0 < fr2 (x - 1) k ∧ fr2 (x - 1) k < 10000) ∧ (-100000 < fr1 (x - 1) k ∧ fr1 (x - 1) k < 100000) ∧ (0 < fr2 (fr1 (x - 1) k * 1) (fr2 (x - 1) k * 2) ∧ fr2 (fr1 (x - 1) k * 1) (fr2 (x - 1) k * 2) < 1073741824)) ((i : Int) + 1))) = true) {z : Int} (hz : 0 ≤ z) (hz' : z < 41) :
    (0 < fr2 z k ∧ fr2 z k < 10000) ∧ (-100000 < fr1 z k ∧ fr1 z k < 100000) ∧ (0 < fr2 (fr1 z k * 1) (fr2 z k * 2) ∧ fr2 (fr1 z k * 1) (fr2 z k * 2) < 1073741824) := by
  have e := enum_of 41 (P := fun x => (0 < fr2 (x - 1) k ∧ fr2 (x - 1) k < 10000) ∧ (-100000 < fr1 (x - 1) k ∧ fr1 (x - 1) k < 100000) ∧ (0 < fr2 (fr1 (x - 1) k * 1) (fr2 (x - 1) k * 2) ∧ fr2 (fr1 (x - 1) k * 1) (fr2 (x - 1) k * 2) < 1073741824)) h (x := z + 1) (by omega) (by omega)
  have q : z + 1 - 1 = z := by omega
  rw [q] at e
  exact e
theorem side_b {z d : Int} (hz : 0 ≤ z) (hz' : z < 41) (hd : 0 ≤ d) (hd' : d < 4) :
    (0 < fr2 z (1 + d) ∧ fr2 z (1 + d) < 10000) ∧ (-100000 < fr1 z (1 + d) ∧ fr1 z (1 + d) < 100000) ∧ (0 < fr2 (fr1 z (1 + d) * 1) (fr2 z (1 + d) * 2) ∧ fr2 (fr1 z (1 + d) * 1) (fr2 z (1 + d) * 2) < 1073741824) := by
  have h : d = 0 ∨ d = 1 ∨ d = 2 ∨ d = 3 := by omega
  rcases h with rfl | rfl | rfl | rfl
  · exact side_e (1 + 0) (by decide +kernel) hz hz'
  · exact side_e (1 + 1) (by decide +kernel) hz hz'
  · exact side_e (1 + 2) (by decide +kernel) hz hz'
  · exact side_e (1 + 3) (by decide +kernel) hz hz'
theorem side_w {z d : Int} (hz : 0 ≤ z) (hz' : z < 41) (hd : 0 ≤ d) (hd' : d < 4) : 0 < fr2 z (1 + d) ∧ fr2 z (1 + d) < 10000 := (side_b hz hz' hd hd').1
theorem side_w' {z d : Int} (hz : 0 ≤ z) (hz' : z < 41) (hd : 0 ≤ d) (hd' : d < 4) : 0 < fr2 z (1 + d) ∧ fr2 z (1 + d) < 100000 := ⟨(side_w hz hz' hd hd').1, Int.lt_trans (side_w hz hz' hd hd').2 (by decide)⟩
theorem side_n {z d : Int} (hz : 0 ≤ z) (hz' : z < 41) (hd : 0 ≤ d) (hd' : d < 4) : -100000 < fr1 z (1 + d) ∧ fr1 z (1 + d) < 100000 := (side_b hz hz' hd hd').2.1
theorem side_f {z d : Int} (hz : 0 ≤ z) (hz' : z < 41) (hd : 0 ≤ d) (hd' : d < 4) : 0 < fr2 (fr1 z (1 + d) * 1) (fr2 z (1 + d) * 2) ∧ fr2 (fr1 z (1 + d) * 1) (fr2 z (1 + d) * 2) < 1073741824 := (side_b hz hz' hd hd').2.2
theorem pc_30b {wv : Int} (h1 : 1 ≤ wv) (h2 : wv ≤ 40) : (-100000 < fr1 (3 * wv) 10 ∧ fr1 (3 * wv) 10 < 100000) ∧ (0 < fr2 (3 * wv) 10 ∧ fr2 (3 * wv) 10 < 100000) :=
  enum_of 40 (P := fun wv => (-100000 < fr1 (3 * wv) 10 ∧ fr1 (3 * wv) 10 < 100000) ∧ (0 < fr2 (3 * wv) 10 ∧ fr2 (3 * wv) 10 < 100000)) (by decide +kernel) h1 h2
theorem em_b {lv : Int} (h1 : 1 ≤ lv) (h2 : lv ≤ 20) : (-100000 < fr1 lv 2 ∧ fr1 lv 2 < 100000) ∧ (0 < fr2 lv 2 ∧ fr2 lv 2 < 100000) :=
  enum_of 20 (P := fun lv => (-100000 < fr1 lv 2 ∧ fr1 lv 2 < 100000) ∧ (0 < fr2 lv 2 ∧ fr2 lv 2 < 100000)) (by decide +kernel) h1 h2
theorem menu_b {name t f : Str} {wv lv a b : Int} (h : (t, a, b, f) ∈ menu name wv lv) (hw : 1 ≤ wv ∧ wv ≤ 40) (hl : 1 ≤ lv ∧ lv ≤ 20) : (-100000 < a ∧ a < 100000) ∧ (0 < b ∧ b < 100000) := by
  unfold menu at h
  simp only [List.mem_cons, Prod.mk.injEq, List.not_mem_nil, or_false] at h
  rcases h with ⟨rfl, rfl, rfl, rfl⟩ | ⟨rfl, rfl, rfl, rfl⟩ | ⟨rfl, rfl, rfl, rfl⟩ | ⟨rfl, rfl, rfl, rfl⟩ | ⟨rfl, rfl, rfl, rfl⟩ | ⟨rfl, rfl, rfl, rfl⟩ | ⟨rfl, rfl, rfl, rfl⟩ | ⟨rfl, rfl, rfl, rfl⟩ | ⟨rfl, rfl, rfl, rfl⟩ | ⟨rfl, rfl, rfl, rfl⟩ | ⟨rfl, rfl, rfl, rfl⟩ | ⟨rfl, rfl, rfl, rfl⟩
  all_goals first | exact pc_30b hw.1 hw.2 | exact em_b hl.1 hl.2 | (refine ⟨⟨?_, ?_⟩, ?_, ?_⟩ <;> decide)
theorem menu_em {name t f : Str} {wv lv a b : Int} (_ : (t, a, b, f) ∈ menu name wv lv) : f = "" ∨ f ≠ "" := Decidable.em _
theorem reset_M5 : True := by
  w_top off
  trivial
theorem lenO_of {w : World} {mean : ExcName → Option Value} {mg mb : Str → Option Value} {t name f : Str} {wv lv a b : Int} (h : LenIs w mean mg mb t wv lv a b) (hb : 0 < b ∧ b < 1073741824) (ha : 0 ≤ a) (hf : f = "") : LenO w mean mg mb t wv lv (RowG name a b f) (fun m => m = f ∧ f ≠ "") :=
  fun kt pw pl k1 k2 k3 k4 => tellO_of (h kt pw pl k1 k2 k3 k4) fun _ _ ho => ⟨a, b, ⟨hb, fun _ => ⟨hf, rfl, rfl⟩, fun z => absurd z (by omega)⟩, ho⟩
theorem lenO_low {w : World} {mean : ExcName → Option Value} {mg mb : Str → Option Value} {t name f : Str} {wv lv a b x y : Int} (h : LenIs w mean mg mb t wv lv x y) (hy : 0 < y ∧ y < 1073741824) (hx : x < 0) (hf : name ++ " is below nought" = f) (hn : f ≠ "") : LenO w mean mg mb t wv lv (RowG name a b f) (fun m => m = f ∧ f ≠ "") :=
  fun kt pw pl k1 k2 k3 k4 => tellO_of (h kt pw pl k1 k2 k3 k4) fun _ _ ho => ⟨x, y, ⟨hy, fun z => absurd hx z, fun _ => ⟨hf, hn⟩⟩, ho⟩
theorem lenO_bad {w : World} {mean : ExcName → Option Value} {mg mb : Str → Option Value} {t name f : Str} {wv lv a b : Int} (h : LenBad w mean mg mb t wv lv f) (hn : f ≠ "") : LenO w mean mg mb t wv lv (RowG name a b f) (fun m => m = f ∧ f ≠ "") :=
  fun kt pw pl k1 k2 k3 k4 => tellO_ofX (h kt pw pl k1 k2 k3 k4) ⟨rfl, hn⟩
theorem pc_30v {wv : Int} (h1 : 1 ≤ wv) (h2 : wv ≤ 40) : 0 ≤ fr1 (3 * wv) 10 ∧ 0 < fr2 (3 * wv) 10 ∧ fr2 (3 * wv) 10 < 1073741824 :=
  enum_of 40 (P := fun wv => 0 ≤ fr1 (3 * wv) 10 ∧ 0 < fr2 (3 * wv) 10 ∧ fr2 (3 * wv) 10 < 1073741824) (by decide +kernel) h1 h2
theorem em_v {lv : Int} (h1 : 1 ≤ lv) (h2 : lv ≤ 20) : 0 ≤ fr1 lv 2 ∧ 0 < fr2 lv 2 ∧ fr2 lv 2 < 1073741824 :=
  enum_of 20 (P := fun lv => 0 ≤ fr1 lv 2 ∧ 0 < fr2 lv 2 ∧ fr2 lv 2 < 1073741824) (by decide +kernel) h1 h2
theorem low_ne {name : Str} (h : name = "rx" ∨ name = "ry") : name ++ " is below nought" ≠ ("" : Str) := by
  rcases h with rfl | rfl <;> decide +kernel
theorem menu_len (w : World) (mean : ExcName → Option Value) (mg mb : Str → Option Value) {name t f : Str} {wv lv a b : Int} (hn : name = "rx" ∨ name = "ry") (hw : 1 ≤ wv ∧ wv ≤ 40) (hl : 1 ≤ lv ∧ lv ≤ 20) (h : (t, a, b, f) ∈ menu name wv lv) :
    LenO w mean mg mb t wv lv (RowG name a b f) (fun m => m = f ∧ f ≠ "") := by
  unfold menu at h
  simp only [List.mem_cons, Prod.mk.injEq, List.not_mem_nil, or_false] at h
  rcases h with ⟨rfl, rfl, rfl, rfl⟩ | ⟨rfl, rfl, rfl, rfl⟩ | ⟨rfl, rfl, rfl, rfl⟩ | ⟨rfl, rfl, rfl, rfl⟩ | ⟨rfl, rfl, rfl, rfl⟩ | ⟨rfl, rfl, rfl, rfl⟩ | ⟨rfl, rfl, rfl, rfl⟩ | ⟨rfl, rfl, rfl, rfl⟩ | ⟨rfl, rfl, rfl, rfl⟩ | ⟨rfl, rfl, rfl, rfl⟩ | ⟨rfl, rfl, rfl, rfl⟩ | ⟨rfl, rfl, rfl, rfl⟩
  · exact lenO_of (len_r0 w mean mg mb wv lv) (by decide) (by decide) rfl
  · exact lenO_of (len_r1 w mean mg mb wv lv) (by decide) (by decide) rfl
  · exact lenO_of (len_r2 w mean mg mb wv lv) (by decide) (by decide) rfl
  · exact lenO_of (len_r3 w mean mg mb wv lv hw) ((pc_30v hw.1 hw.2).2) ((pc_30v hw.1 hw.2).1) rfl
  · exact lenO_of (len_r4 w mean mg mb wv lv) (by decide) (by decide) rfl
  · exact lenO_of (len_r5 w mean mg mb wv lv hl) ((em_v hl.1 hl.2).2) ((em_v hl.1 hl.2).1) rfl
  · exact lenO_of (len_r6 w mean mg mb wv lv) (by decide) (by decide) rfl
  · exact lenO_of (len_r7 w mean mg mb wv lv) (by decide) (by decide) rfl
  · exact lenO_low (len_r8 w mean mg mb wv lv) (by decide) (by decide) rfl (low_ne hn)
  · exact lenO_low (len_r9 w mean mg mb wv lv hw) (pc_m2 hw.1 hw.2).2.2 (pc_m2 hw.1 hw.2).2.1 rfl (low_ne hn)
  · exact lenO_bad (len_bA w mean mg mb wv lv) (by decide +kernel)
  · exact lenO_bad (len_bE w mean mg mb wv lv) (by decide +kernel)
/-- a told radius: its length and its fault -/
abbrev Cell : Type := Option (Int × Int × Str)
def TxtAt (name : Str) (wv lv : Int) (prs : List (Str × Value)) : Cell → Prop
  | none => valueAt prs name = none
  | some (a, b, f) => ∃ (t : Str) (k : Tok), valueAt prs name = some (.str t k) ∧ (t, a, b, f) ∈ menu name wv lv
/-- what the law's text wants -/
def dueX (ox oy : Cell) (w0 w1 h0 h1 : Int) : PyData :=
  match ox, oy with
  | none, none => okD (0, 1) (0, 1)
  | some (a, b, f), none => if f = "" then okD (lstH a b w0 w1) (lstH a b h0 h1) else badD f
  | none, some (a, b, f) => if f = "" then okD (lstH a b w0 w1) (lstH a b h0 h1) else badD f
  | some (a, b, f), some (a', b', f') => if f = "" then (if f' = "" then okD (lstH a b w0 w1) (lstH a' b' h0 h1) else badD f') else badD f
/-- the bounds of a drawn side -/
def SideOk (a b : Int) : Prop := (0 < b ∧ b < 10000) ∧ (-100000 < a ∧ a < 100000) ∧ (0 < fr2 (a * 1) (b * 2) ∧ fr2 (a * 1) (b * 2) < 1073741824)
theorem szX_at {w : World} {mean : ExcName → Option Value} {mg mb : Str → Option Value} {prs : List (Str × Value)} {W H l w0 w1 h0 h1 a b : Int} {f t : Str} {k : Tok} {pf df pe de pa pwd phd pw ph pl : Addr} {j1 j2 j3 i1 i2 i3 i4 k1 k2 k3 k4 k5 k6 k7 k8 k9 k10 : Tok} {nm ch tt : Value} {oA : Obj} (hD : oA.IsDictOf (PySem.strKind PR w) prs) (hlo : (pa == sysModules) = false) (hg : valueAt prs "rx" = some (.str t k)) (hL : LenO w mean mg mb t W l (RowG "rx" a b f) (fun m => m = f ∧ f ≠ "")) : SizeO w mean mg mb (corPre w pf df pe de pa pwd phd pw ph pl j1 j2 j3 i1 i2 i3 i4 k1 k2 k3 k4 k5 k6 k7 k8 k9 k10 nm ch tt oA W H l w0 w1 h0 h1) pf pe "rx" a b f :=
  fun kn => tellO_mono (t_szX w mean mg mb pf df pe de pa pw ph pl j1 j2 j3 i1 i2 i3 i4 k1 k2 k3 k4 k5 k6 k kn nm ch tt oA prs W H l a b t f hD hlo hg hL) (fun q hq => List.mem_append_left [(pwd, tupO [.int w0 k7, .int w1 k8]), (phd, tupO [.int h0 k9, .int h1 k10])] hq) (fun _ _ h => h) (fun _ h => h)
theorem szY_at {w : World} {mean : ExcName → Option Value} {mg mb : Str → Option Value} {prs : List (Str × Value)} {W H l w0 w1 h0 h1 a b : Int} {f t : Str} {k : Tok} {pf df pe de pa pwd phd pw ph pl : Addr} {j1 j2 j3 i1 i2 i3 i4 k1 k2 k3 k4 k5 k6 k7 k8 k9 k10 : Tok} {nm ch tt : Value} {oA : Obj} (hD : oA.IsDictOf (PySem.strKind PR w) prs) (hlo : (pa == sysModules) = false) (hg : valueAt prs "ry" = some (.str t k)) (hL : LenO w mean mg mb t H l (RowG "ry" a b f) (fun m => m = f ∧ f ≠ "")) : SizeO w mean mg mb (corPre w pf df pe de pa pwd phd pw ph pl j1 j2 j3 i1 i2 i3 i4 k1 k2 k3 k4 k5 k6 k7 k8 k9 k10 nm ch tt oA W H l w0 w1 h0 h1) pf pe "ry" a b f :=
  fun kn => tellO_mono (t_szY w mean mg mb pf df pe de pa pw ph pl j1 j2 j3 i1 i2 i3 i4 k1 k2 k3 k4 k5 k6 k kn nm ch tt oA prs W H l a b t f hD hlo hg hL) (fun q hq => List.mem_append_left [(pwd, tupO [.int w0 k7, .int w1 k8]), (phd, tupO [.int h0 k9, .int h1 k10])] hq) (fun _ _ h => h) (fun _ h => h)
theorem row_pos {name t f : Str} {wv lv a b : Int} (h : (t, a, b, f) ∈ menu name wv lv) (hw : 1 ≤ wv ∧ wv ≤ 40) (hl : 1 ≤ lv ∧ lv ≤ 20) : 0 < b ∧ b < 1073741824 := by
  have := (menu_b h hw hl).2
  omega
theorem corB_of {w : World} {mean : ExcName → Option Value} {mg mb : Str → Option Value} {prs : List (Str × Value)} {W H l w0 w1 h0 h1 : Int} {a1 b1 a2 b2 : Int} {f1 f2 t1 t2 : Str} {tx ty : Tok} (hgx : valueAt prs "rx" = some (.str t1 tx)) (hgy : valueAt prs "ry" = some (.str t2 ty)) (r1 : LenO w mean mg mb t1 W l (RowG "rx" a1 b1 f1) (fun m => m = f1 ∧ f1 ≠ "")) (r2 : LenO w mean mg mb t2 H l (RowG "ry" a2 b2 f2) (fun m => m = f2 ∧ f2 ≠ "")) (p1 : 0 < b1 ∧ b1 < 1073741824) (p2 : 0 < b2 ∧ b2 < 1073741824) (sw : SideOk w0 w1) (sh : SideOk h0 h1) :
    CorO w mean mg mb prs W H l w0 w1 h0 h1 (dueX (some (a1, b1, f1)) (some (a2, b2, f2)) w0 w1 h0 h1) :=
  fun pf df pe de pa pwd phd pw ph pl j1 j2 j3 i1 i2 i3 i4 k1 k2 k3 k4 k5 k6 k7 k8 k9 k10 nm ch tt oA hD hlo => tellO_mono (t_corB w mean mg mb (corPre w pf df pe de pa pwd phd pw ph pl j1 j2 j3 i1 i2 i3 i4 k1 k2 k3 k4 k5 k6 k7 k8 k9 k10 nm ch tt oA W H l w0 w1 h0 h1) pf df pe de pa pwd phd pw ph pl j1 j2 j3 i1 i2 i3 i4 k7 k8 k9 k10 _ _ nm ch tt oA prs w0 w1 h0 h1 _ _ hD hlo (.head _) (.tail _ (.head _)) (.tail _ (.tail _ (.head _))) (.tail _ (.tail _ (.tail _ (.head _)))) (.tail _ (.tail _ (.tail _ (.tail _ (.head _))))) (.tail _ (.tail _ (.tail _ (.tail _ (.tail _ (.tail _ (.tail _ (.tail _ (.head _))))))))) (.tail _ (.tail _ (.tail _ (.tail _ (.tail _ (.tail _ (.tail _ (.tail _ (.tail _ (.head _)))))))))) sw.1 sh.1 a1 b1 a2 b2 f1 f2 hgx hgy (szX_at hD hlo hgx r1) (szY_at hD hlo hgy r2) p1 p2 sw.2.2 sh.2.2) (fun _ h => h) (fun r tl ho => ⟨_, by simp only [dueX, if_pos ho.1, if_pos ho.2.1]; rfl, ho.2.2⟩) (fun m hm => by
    rcases hm with ⟨e, n⟩ | ⟨z, e, n⟩
    · simp only [dueX, if_neg n, e]
    · simp only [dueX, if_pos z, if_neg n, e])
theorem corX_of {w : World} {mean : ExcName → Option Value} {mg mb : Str → Option Value} {prs : List (Str × Value)} {W H l w0 w1 h0 h1 : Int} {a1 b1 : Int} {f1 t1 : Str} {tx : Tok} (hgx : valueAt prs "rx" = some (.str t1 tx)) (hgy : valueAt prs "ry" = none) (r1 : LenO w mean mg mb t1 W l (RowG "rx" a1 b1 f1) (fun m => m = f1 ∧ f1 ≠ "")) (p1 : 0 < b1 ∧ b1 < 1073741824) (sw : SideOk w0 w1) (sh : SideOk h0 h1) :
    CorO w mean mg mb prs W H l w0 w1 h0 h1 (dueX (some (a1, b1, f1)) none w0 w1 h0 h1) :=
  fun pf df pe de pa pwd phd pw ph pl j1 j2 j3 i1 i2 i3 i4 k1 k2 k3 k4 k5 k6 k7 k8 k9 k10 nm ch tt oA hD hlo => tellO_mono (t_corX w mean mg mb (corPre w pf df pe de pa pwd phd pw ph pl j1 j2 j3 i1 i2 i3 i4 k1 k2 k3 k4 k5 k6 k7 k8 k9 k10 nm ch tt oA W H l w0 w1 h0 h1) pf df pe de pa pwd phd pw ph pl j1 j2 j3 i1 i2 i3 i4 k7 k8 k9 k10 _ 0 nm ch tt oA prs w0 w1 h0 h1 _ "" hD hlo (.head _) (.tail _ (.head _)) (.tail _ (.tail _ (.head _))) (.tail _ (.tail _ (.tail _ (.head _)))) (.tail _ (.tail _ (.tail _ (.tail _ (.head _))))) (.tail _ (.tail _ (.tail _ (.tail _ (.tail _ (.tail _ (.tail _ (.tail _ (.head _))))))))) (.tail _ (.tail _ (.tail _ (.tail _ (.tail _ (.tail _ (.tail _ (.tail _ (.tail _ (.head _)))))))))) sw.1 sh.1 a1 b1 f1 hgx hgy (szX_at hD hlo hgx r1) p1 sw.2.2 sh.2.2) (fun _ h => h) (fun r tl ho => ⟨_, by simp only [dueX, if_pos ho.1]; rfl, ho.2⟩) (fun m hm => by simp only [dueX, if_neg hm.2, hm.1])
theorem corY_of {w : World} {mean : ExcName → Option Value} {mg mb : Str → Option Value} {prs : List (Str × Value)} {W H l w0 w1 h0 h1 : Int} {a2 b2 : Int} {f2 t2 : Str} {ty : Tok} (hgx : valueAt prs "rx" = none) (hgy : valueAt prs "ry" = some (.str t2 ty)) (r2 : LenO w mean mg mb t2 H l (RowG "ry" a2 b2 f2) (fun m => m = f2 ∧ f2 ≠ "")) (p2 : 0 < b2 ∧ b2 < 1073741824) (sw : SideOk w0 w1) (sh : SideOk h0 h1) :
    CorO w mean mg mb prs W H l w0 w1 h0 h1 (dueX none (some (a2, b2, f2)) w0 w1 h0 h1) :=
  fun pf df pe de pa pwd phd pw ph pl j1 j2 j3 i1 i2 i3 i4 k1 k2 k3 k4 k5 k6 k7 k8 k9 k10 nm ch tt oA hD hlo => tellO_mono (t_corY w mean mg mb (corPre w pf df pe de pa pwd phd pw ph pl j1 j2 j3 i1 i2 i3 i4 k1 k2 k3 k4 k5 k6 k7 k8 k9 k10 nm ch tt oA W H l w0 w1 h0 h1) pf df pe de pa pwd phd pw ph pl j1 j2 j3 i1 i2 i3 i4 k7 k8 k9 k10 0 _ nm ch tt oA prs w0 w1 h0 h1 "" _ hD hlo (.head _) (.tail _ (.head _)) (.tail _ (.tail _ (.head _))) (.tail _ (.tail _ (.tail _ (.head _)))) (.tail _ (.tail _ (.tail _ (.tail _ (.head _))))) (.tail _ (.tail _ (.tail _ (.tail _ (.tail _ (.tail _ (.tail _ (.tail _ (.head _))))))))) (.tail _ (.tail _ (.tail _ (.tail _ (.tail _ (.tail _ (.tail _ (.tail _ (.tail _ (.head _)))))))))) sw.1 sh.1 a2 b2 f2 hgx hgy (szY_at hD hlo hgy r2) p2 sw.2.2 sh.2.2) (fun _ h => h) (fun r tl ho => ⟨_, by simp only [dueX, if_pos ho.1]; rfl, ho.2⟩) (fun m hm => by simp only [dueX, if_neg hm.2, hm.1])
theorem cor0_of {w : World} {mean : ExcName → Option Value} {mg mb : Str → Option Value} {prs : List (Str × Value)} {W H l w0 w1 h0 h1 : Int} (hgx : valueAt prs "rx" = none) (hgy : valueAt prs "ry" = none) (sw : SideOk w0 w1) (sh : SideOk h0 h1) :
    CorO w mean mg mb prs W H l w0 w1 h0 h1 (dueX none none w0 w1 h0 h1) :=
  fun pf df pe de pa pwd phd pw ph pl j1 j2 j3 i1 i2 i3 i4 k1 k2 k3 k4 k5 k6 k7 k8 k9 k10 nm ch tt oA hD hlo => tellO_mono (t_cor0 w mean mg mb (corPre w pf df pe de pa pwd phd pw ph pl j1 j2 j3 i1 i2 i3 i4 k1 k2 k3 k4 k5 k6 k7 k8 k9 k10 nm ch tt oA W H l w0 w1 h0 h1) pf df pe de pa pwd phd pw ph pl j1 j2 j3 i1 i2 i3 i4 k7 k8 k9 k10 0 0 nm ch tt oA prs w0 w1 h0 h1 "" "" hD hlo (.head _) (.tail _ (.head _)) (.tail _ (.tail _ (.head _))) (.tail _ (.tail _ (.tail _ (.head _)))) (.tail _ (.tail _ (.tail _ (.tail _ (.head _))))) (.tail _ (.tail _ (.tail _ (.tail _ (.tail _ (.tail _ (.tail _ (.tail _ (.head _))))))))) (.tail _ (.tail _ (.tail _ (.tail _ (.tail _ (.tail _ (.tail _ (.tail _ (.tail _ (.head _)))))))))) sw.1 sh.1 hgx hgy) (fun _ h => h) (fun r tl ho => ⟨_, rfl, ho⟩) (fun m hm => nomatch hm)
theorem t_answer (w : World) (mean : ExcName → Option Value) (mg mb : Str → Option Value) (pt psz pwd phd : Addr) (s1 s2 s3 k1 k2 k3 k4 : Tok) (oA : Obj) (prs : List (Str × Value)) (W H l w0 w1 h0 h1 : Int) (ox oy : Cell) (hD : oA.IsDictOf (PySem.strKind PR w) prs) (hlo : (pt == sysModules) = false) (hW : 1 ≤ W ∧ W ≤ 40) (hH : 1 ≤ H ∧ H ≤ 40) (hl : 1 ≤ l ∧ l ≤ 20) (sw : SideOk w0 w1) (sh : SideOk h0 h1) (hx : TxtAt "rx" W l prs ox) (hy : TxtAt "ry" H l prs oy) :
    TellA w mean mg mb 20 335 [.ref pt, .ref psz, .ref pwd, .ref phd] [(pt, oA), (psz, tupO [.int W s1, .int H s2, .int l s3]), (pwd, tupO [.int w0 k1, .int w1 k2]), (phd, tupO [.int h0 k3, .int h1 k4])] (RdT w (dueX ox oy w0 w1 h0 h1)) := by
  refine t_ans w mean mg mb pt psz pwd phd s1 s2 s3 k1 k2 k3 k4 oA prs W H l w0 w1 h0 h1 hD hlo _ ?_
  rcases ox with _ | ⟨a, b, f⟩ <;> rcases oy with _ | ⟨a', b', f'⟩
  · exact cor0_of hx hy sw sh
  · obtain ⟨t, k, e, hm⟩ := hy
    exact corY_of hx e (menu_len w mean mg mb (.inr rfl) hH hl hm) (row_pos hm hH hl) sw sh
  · obtain ⟨t, k, e, hm⟩ := hx
    exact corX_of e hy (menu_len w mean mg mb (.inl rfl) hW hl hm) (row_pos hm hW hl) sw sh
  · obtain ⟨t, k, e, hm⟩ := hx
    obtain ⟨t', k', e', hm'⟩ := hy
    exact corB_of e e' (menu_len w mean mg mb (.inl rfl) hW hl hm) (menu_len w mean mg mb (.inr rfl) hH hl hm') (row_pos hm hW hl) (row_pos hm' hH hl) sw sh
theorem reset_G2 : True := by
  w_top off
  trivial
/-- a call that is handed the script -/
abbrev TellS (w : World) (mean : ExcName → Option Value) (mg mb : Str → Option Value) (n : Nat) (f : Addr) (pl : Addr) (Out : Value → List (Addr × Obj) → Prop) : Prop :=
  ∀ (dp un : Nat) (gd : Option (List Code)) (cn : Str) (cs : Scope) (a : Addr) (ccd : Value) (cl : List (Str × Addr)) (outer : List Env) (A₀ : Around) (base h₀ : Heap) (L : Addr) (m : Str → Option Value) (news : List (Addr × Obj)) (s : Shared) (xs : List Value) (ns : List Int)
    (Q E : Value → Shared → Prop),
    Below A₀ base outer h₀ → Fr h₀ L s.heap m → (kv.heap_1 w.params).In h₀ → News h₀ L s.heap news → Top VW LO mean mg mb h₀ → cs.kind = .function → h₀.IsList pl xs.toArray → IntsAre xs ns → ¬ ((63 : Nat) : Int) < (ns.length : Int) → dp + n < recursionLimit → un + 8 * n < cLine →
    (∀ r tl h' tk', Fr h₀ L h' m → News h₀ L h' (tl ++ news) → (∀ q ∈ news, ∀ p ∈ tl, q.1 < p.1) → Out r tl → Q r { s with heap := h', toks := tk' }) →
    wpAny (model PR w) (ktrTop dp un gd cn cs L a ccd cl outer) (call (.ref f) [.ref pl]) Q E s
theorem tellS_use {w : World} {mean : ExcName → Option Value} {mg mb : Str → Option Value} {n : Nat} {f pl : Addr} {Out : Value → List (Addr × Obj) → Prop} (C : TellS w mean mg mb n f pl Out)
    {dp un : Nat} {gd : Option (List Code)} {cn : Str} {cs : Scope} {a : Addr} {ccd : Value} {cl : List (Str × Addr)} {outer : List Env} {A₀ : Around} {base h₀ : Heap} {L : Addr} {m : Str → Option Value} {news : List (Addr × Obj)} {s : Shared} {xs : List Value} {ns : List Int}
    {Q E : Value → Shared → Prop} (B : Below A₀ base outer h₀) (F : Fr h₀ L s.heap m) (X : (kv.heap_1 w.params).In h₀) (N : News h₀ L s.heap news) (T : Top VW LO mean mg mb h₀) (hk : cs.kind = .function) (hl : h₀.IsList pl xs.toArray) (hi : IntsAre xs ns) (hz : ¬ ((63 : Nat) : Int) < (ns.length : Int)) (hd : dp + n < recursionLimit) (hu : un + 8 * n < cLine)
    (ret : ∀ r tl h' tk', Fr h₀ L h' m → News h₀ L h' (tl ++ news) → (∀ q ∈ news, ∀ p ∈ tl, q.1 < p.1) → Out r tl → Q r { s with heap := h', toks := tk' }) :
    wpAny (model PR w) (ktrTop dp un gd cn cs L a ccd cl outer) (call (.ref f) [.ref pl]) Q E s := C _ _ _ _ _ _ _ _ _ _ _ _ _ _ _ _ _ _ _ _ B F X N T hk hl hi hz hd hu ret
theorem pool_nn (a : Int) (c : Prop) [Decidable c] : 0 ≤ (if -1 - a > a then -1 - a else a) * (if c then 1 else 0) := by
  by_cases h : c
  · rw [if_pos h, Int.mul_one]; split <;> omega
  · rw [if_neg h, Int.mul_zero]; exact Int.le_refl 0
set_option maxHeartbeats 4000000 in
theorem t_pool (w : World) (mean : ExcName → Option Value) (mg mb : Str → Option Value) (pl : Addr) :
    TellS w mean mg mb 4 286 pl (fun r tl => ∃ p x y tx ty, r = .ref p ∧ tl = [(p, srcO x y tx ty 0)] ∧ 0 ≤ x ∧ 0 ≤ y ∧ y < 2147483647) := by
  intro dp un gd cn cs a ccd cl outer A₀ base h₀ L m news s xs ns Q E B F X N T hk hLS hIS hZS hd hu hret
  refine wpAny_call ?_
  k_with_none
  k_dflt walk_at "my enter"
  have hL' := Fr.lst (by assumption) hLS
  clear hLS
  k_steps
  all_goals refine ret1 hret (by k_asm) (by k_asm) (by k_mem) (by walk_at "my keep") (by walk_at "my lt") ⟨_, _, _, _, _, rfl, rfl, ?_, ?_, ?_⟩
  all_goals first | exact (fm_in _ (by decide)).1 | exact (fm_in _ (by decide)).2 | exact pool_nn _ _ | decide +kernel
theorem reset_G3 : True := by
  w_top off
  trivial
/-- a call whose new objects need no order -/
abbrev TellN (w : World) (mean : ExcName → Option Value) (mg mb : Str → Option Value) (n : Nat) (f : Addr) (vs : List Value) (pre : List (Addr × Obj)) (Out : Value → List (Addr × Obj) → Prop) : Prop :=
  ∀ (dp un : Nat) (gd : Option (List Code)) (cn : Str) (cs : Scope) (a : Addr) (ccd : Value) (cl : List (Str × Addr)) (outer : List Env) (A₀ : Around) (base h₀ : Heap) (L : Addr) (m : Str → Option Value) (news : List (Addr × Obj)) (s : Shared)
    (Q E : Value → Shared → Prop),
    Below A₀ base outer h₀ → Fr h₀ L s.heap m → (kv.heap_1 w.params).In h₀ → News h₀ L s.heap news → Top VW LO mean mg mb h₀ → cs.kind = .function → (∀ q ∈ pre, q ∈ news) → dp + n < recursionLimit → un + 8 * n < cLine →
    (∀ r tl h' tk', Fr h₀ L h' m → News h₀ L h' (tl ++ news) → Out r tl → Q r { s with heap := h', toks := tk' }) →
    wpAny (model PR w) (ktrTop dp un gd cn cs L a ccd cl outer) (call (.ref f) vs) Q E s
theorem tellN_use {w : World} {mean : ExcName → Option Value} {mg mb : Str → Option Value} {n : Nat} {f : Addr} {vs : List Value} {pre : List (Addr × Obj)} {Out : Value → List (Addr × Obj) → Prop} (C : TellN w mean mg mb n f vs pre Out)
    {dp un : Nat} {gd : Option (List Code)} {cn : Str} {cs : Scope} {a : Addr} {ccd : Value} {cl : List (Str × Addr)} {outer : List Env} {A₀ : Around} {base h₀ : Heap} {L : Addr} {m : Str → Option Value} {news : List (Addr × Obj)} {s : Shared}
    {Q E : Value → Shared → Prop} (B : Below A₀ base outer h₀) (F : Fr h₀ L s.heap m) (X : (kv.heap_1 w.params).In h₀) (N : News h₀ L s.heap news) (T : Top VW LO mean mg mb h₀) (hk : cs.kind = .function) (hp : ∀ q ∈ pre, q ∈ news) (hd : dp + n < recursionLimit) (hu : un + 8 * n < cLine)
    (ret : ∀ r tl h' tk', Fr h₀ L h' m → News h₀ L h' (tl ++ news) → Out r tl → Q r { s with heap := h', toks := tk' }) :
    wpAny (model PR w) (ktrTop dp un gd cn cs L a ccd cl outer) (call (.ref f) vs) Q E s := C _ _ _ _ _ _ _ _ _ _ _ _ _ _ _ _ _ _ B F X N T hk hp hd hu ret
/-- the law's cut, whichever way it went -/
theorem cut_join {h₀ h : Heap} {L pa : Addr} {a0 a1 b0 b1 : Int} {t1 t2 : Tok} {r : Value} {tl news : List (Addr × Obj)} (hb : 0 < b1) (N : News h₀ L h (tl ++ news)) (hm : (pa, tupO [.int a0 t1, .int a1 t2]) ∈ news)
    (ho : (2 * a0 * b1 ≤ b0 * a1 ∧ r = .ref pa ∧ tl = []) ∨ (¬ 2 * a0 * b1 ≤ b0 * a1 ∧ ∃ p t1 t2, r = .ref p ∧ tl = [(p, tupO [.int (fr1 b0 (2 * b1)) t1, .int (fr2 b0 (2 * b1)) t2])])) :
    ∃ q t1 t2, r = .ref q ∧ News h₀ L h ((q, tupO [.int (lstH a0 a1 b0 b1).1 t1, .int (lstH a0 a1 b0 b1).2 t2]) :: news) := by
  rw [lstH_is hb]
  rcases ho with ⟨hc, e, e'⟩ | ⟨hc, p, u1, u2, e, e'⟩
  · refine ⟨pa, t1, t2, e, ?_⟩
    rw [if_pos hc]
    subst e'
    exact cb_drop N (List.forall_mem_cons.mpr ⟨hm, fun _ h => h⟩)
  · refine ⟨p, u1, u2, e, ?_⟩
    rw [if_neg hc]
    subst e'
    exact N
theorem due_eq0 {prog : Program} {w : World} {A : Around} {E : Value → Shared → Prop} {s : Shared} {h₀ : Heap} {L a b : Addr} {oa ob : Obj} {news : List (Addr × Obj)} {ka : List (Str × Value)} {Q : Value → Shared → Prop} (N : News h₀ L s.heap news) (pa : (a, oa) ∈ news) (pb : (b, ob) ∈ news) (da : oa.IsDictOf (PySem.strKind prog w) ka) (db : ob.IsDictOf (PySem.strKind prog w) []) (la : (a == sysModules) = false) (lb : (b == sysModules) = false) (hu : A.units < cLine) (hne : (ka.length == 0) = false) (h : Q (.bool false) s) :
    wpAny (model prog w) A (compareOp .Eq (.ref a) (.ref b)) Q E s := by
  refine keq_eq (r := false) la lb (Heap.dictOf_iff.mpr ⟨oa, (N _ pa).1, da⟩) (Heap.dictOf_iff.mpr ⟨ob, (N _ pb).1, db⟩) hu (fun e => ?_) ?_
  · rw [e] at hne; cases hne
  · rw [Bool.and_false]; exact h
theorem isSome_t {α : Type} {o : Option α} {v : α} (h : o = some v) : o.isSome = true := by rw [h]; rfl
theorem isSome_f {α : Type} {o : Option α} (h : o = none) : o.isSome = false := by rw [h]; rfl
theorem due_eq1 {prog : Program} {w : World} {A : Around} {E : Value → Shared → Prop} {s : Shared} {h₀ : Heap} {L a b : Addr} {oa ob : Obj} {news : List (Addr × Obj)} {Q : Value → Shared → Prop} (N : News h₀ L s.heap news) (pa : (a, oa) ∈ news) (pb : (b, ob) ∈ news) (da : oa.IsDictOf (PySem.strKind prog w) []) (db : ob.IsDictOf (PySem.strKind prog w) []) (la : (a == sysModules) = false) (lb : (b == sysModules) = false) (hu : A.units < cLine) (h : Q (.bool true) s) :
    wpAny (model prog w) A (compareOp .Eq (.ref a) (.ref b)) Q E s :=
  keq_eq (r := true) la lb (Heap.dictOf_iff.mpr ⟨oa, (N _ pa).1, da⟩) (Heap.dictOf_iff.mpr ⟨ob, (N _ pb).1, db⟩) hu (fun _ => KeqHits.nil) h
-- LOCAL
local macro_rules | `(tactic| walk_at "my cut") => `(tactic| (case' ret => intro r9 tl9 h9 tk9 F9 N9 hl9 ho9; clear hl9; (have N9 := cut_join (And.left (by assumption)) N9 (by k_mem) ho9); obtain ⟨q9, t9, u9, e9, N9⟩ := N9; subst e9; clear ho9; walk_at "my fold"))
local macro_rules | `(tactic| walk_at "call ref") => `(tactic| (k_here; (with_reducible apply at_ref 321; k_dflt (apply tell_use (t_cut _ _ _ _ _ _ _ _ _ _ _ _ _ _ _ _ _ _); walk_at "my u"; walk_at "my cut"))))
local macro_rules | `(tactic| walk_at "compareOp Eq ref ref") => `(tactic| (k_here; k_dflt (first | refine due_eq0 (by k_asm) (by k_mem) (by k_mem) (by assumption) (by assumption) (by assumption) (by assumption) (by ktr_units) (by assumption) ?_ | refine due_eq1 (by k_asm) (by k_mem) (by k_mem) (by assumption) (by assumption) (by assumption) (by assumption) (by ktr_units) ?_)))
local macro_rules | `(tactic| walk_at "compareOp In str ref") => `(tactic| (k_here; k_dflt (first | (refine' kda_in (knd := PySem.strKind _ _) ?zN ?za ?zb ?zc (strKind_is _ _ _ _) true ?zd ?_; (case zN => k_asm); (case za => k_mem); (case zb | zc => assumption); (case zd => exact isSome_t (by assumption))) | (refine' kda_in (knd := PySem.strKind _ _) ?zN ?za ?zb ?zc (strKind_is _ _ _ _) false ?zd ?_; (case zN => k_asm); (case za => k_mem); (case zb | zc => assumption); (case zd => exact isSome_f (by assumption))))))
local macro_rules | `(tactic| walk_at "subscriptTail") => `(tactic| (k_here; (with_reducible show wpAny _ _ (subscriptTail _ _ (Value.ref _) (Value.str (Str.ofString _) _)) _ _ _); k_dflt (refine' kda_item (knd := PySem.strKind _ _) ?zN ?za ?zb (strKind_is _ _ _ _) ?zd ?_; (case zN => k_asm); (case za => k_mem); (case zb | zd => assumption))))
-- END LOCAL
def dueOk (u v : Int × Int) (r : Value) (tl : List (Addr × Obj)) : Prop := ∃ p p0 q1 q2 t0 t1 t2 t3 t4, r = .ref p ∧ tl = [(p, tupO [.ref p0, .str "" t0]), (p0, tupO [.ref q1, .ref q2]), (q1, tupO [.int u.1 t1, .int u.2 t2]), (q2, tupO [.int v.1 t3, .int v.2 t4])]
def dueBad (f : Str) (r : Value) (tl : List (Addr × Obj)) : Prop := ∃ p t0, r = .ref p ∧ tl = [(p, tupO [.none, .str f t0])]
theorem ne_t {f : Str} (h : (f != "") = true) : ¬ f = "" := fun e => by rw [e] at h; exact absurd h (by decide)
theorem ne_f {f : Str} (h : (f != "") = false) : f = "" := Decidable.byContradiction fun e => by
  have : (f != "") = true := bne_iff_ne.mpr e
  rw [this] at h; cases h
theorem due_i1 {f1 f2 : Str} {A B C : Prop} (e : (f1 != "") = true) (h : C) : if f1 = "" then (if f2 = "" then A else B) else C := by rw [if_neg (ne_t e)]; exact h
theorem due_i2 {f1 f2 : Str} {A B C : Prop} (e : (f1 != "") = false) (e2 : (f2 != "") = true) (h : B) : if f1 = "" then (if f2 = "" then A else B) else C := by rw [if_pos (ne_f e), if_neg (ne_t e2)]; exact h
theorem due_i3 {f1 f2 : Str} {A B C : Prop} (e : (f1 != "") = false) (e2 : (f2 != "") = false) (h : A) : if f1 = "" then (if f2 = "" then A else B) else C := by rw [if_pos (ne_f e), if_pos (ne_f e2)]; exact h
theorem due_j1 {f1 : Str} {A C : Prop} (e : (f1 != "") = true) (h : C) : if f1 = "" then A else C := by rw [if_neg (ne_t e)]; exact h
theorem due_j3 {f1 : Str} {A C : Prop} (e : (f1 != "") = false) (h : A) : if f1 = "" then A else C := by rw [if_pos (ne_f e)]; exact h
theorem retN {h₀ h' : Heap} {L : Addr} {m : Str → Option Value} {news news' tl : List (Addr × Obj)} {s : Shared} {Q : Value → Shared → Prop} {Out : Value → List (Addr × Obj) → Prop} {r : Value} {tk' : Nat}
    (ret : ∀ r tl h' tk', Fr h₀ L h' m → News h₀ L h' (tl ++ news) → Out r tl → Q r { s with heap := h', toks := tk' })
    (ho : Out r tl) (F : Fr h₀ L h' m) (N : News h₀ L h' news') (hm : ∀ p ∈ tl, p ∈ news') (hs : ∀ q ∈ news, q ∈ news') : Q r { s with heap := h', toks := tk' } :=
  ret r tl h' tk' F (cb_drop N (fun p hp => (List.mem_append.mp hp).elim (hm p) (hs p))) ho
set_option maxHeartbeats 4000000 in
theorem t_due2 (w : World) (mean : ExcName → Option Value) (mg mb : Str → Option Value) (pt px qx py qy pwd phd : Addr) (k1 k2 k3 k4 k5 k6 k7 k8 k9 k10 : Tok) (oD : Obj) (prs : List (Str × Value)) (f1 f2 : Str) (a1 b1 a2 b2 w0 w1 h0 h1 : Int) (hD : oD.IsDictOf (PySem.strKind PR w) prs) (hlo : (pt == sysModules) = false) (hne : (prs.length == 0) = false) (hgx : valueAt prs "rx" = some (.ref px)) (hgy : valueAt prs "ry" = some (.ref py)) (ha1 : -100000 < a1 ∧ a1 < 100000) (hb1 : 0 < b1 ∧ b1 < 100000) (ha2 : -100000 < a2 ∧ a2 < 100000) (hb2 : 0 < b2 ∧ b2 < 100000) (hw0 : -100000 < w0 ∧ w0 < 100000) (hw1 : 0 < w1 ∧ w1 < 100000) (hh0 : -100000 < h0 ∧ h0 < 100000) (hh1 : 0 < h1 ∧ h1 < 100000) :
    TellN w mean mg mb 10 328 [.ref pt, .ref pwd, .ref phd] [(pt, oD), (px, tupO [.ref qx, .str f1 k1]), (qx, tupO [.int a1 k2, .int b1 k3]), (py, tupO [.ref qy, .str f2 k4]), (qy, tupO [.int a2 k5, .int b2 k6]), (pwd, tupO [.int w0 k7, .int w1 k8]), (phd, tupO [.int h0 k9, .int h1 k10])]
      (fun r tl => if f1 = "" then (if f2 = "" then dueOk (lstH a1 b1 w0 w1) (lstH a2 b2 h0 h1) r tl else dueBad f2 r tl) else dueBad f1 r tl) := by
  intro dp un gd cn cs a ccd cl outer A₀ base h₀ L m news s Q E B F X N T hk hR hd hu hret
  have m0 := hR _ (List.Mem.head _)
  have m1 := hR _ (List.Mem.tail _ (List.Mem.head _))
  have m2 := hR _ (List.Mem.tail _ (List.Mem.tail _ (List.Mem.head _)))
  have m3 := hR _ (List.Mem.tail _ (List.Mem.tail _ (List.Mem.tail _ (List.Mem.head _))))
  have m4 := hR _ (List.Mem.tail _ (List.Mem.tail _ (List.Mem.tail _ (List.Mem.tail _ (List.Mem.head _)))))
  have m5 := hR _ (List.Mem.tail _ (List.Mem.tail _ (List.Mem.tail _ (List.Mem.tail _ (List.Mem.tail _ (List.Mem.head _))))))
  have m6 := hR _ (List.Mem.tail _ (List.Mem.tail _ (List.Mem.tail _ (List.Mem.tail _ (List.Mem.tail _ (List.Mem.tail _ (List.Mem.head _)))))))
  refine wpAny_call ?_
  k_with_none
  k_dflt walk_at "my enter"
  k_steps
  · exact retN hret (due_i1 (by assumption) ⟨_, _, rfl, rfl⟩) (by k_asm) (by assumption) (by walk_at "my pre") (by walk_at "my keep")
  · exact retN hret (due_i2 (by assumption) (by assumption) ⟨_, _, rfl, rfl⟩) (by k_asm) (by assumption) (by walk_at "my pre") (by walk_at "my keep")
  · exact retN hret (due_i3 (by assumption) (by assumption) ⟨_, _, _, _, _, _, _, _, _, rfl, rfl⟩) (by k_asm) (by assumption) (by walk_at "my pre") (by walk_at "my keep")
set_option maxHeartbeats 4000000 in
theorem t_dueX (w : World) (mean : ExcName → Option Value) (mg mb : Str → Option Value) (pt px qx pwd phd : Addr) (k1 k2 k3 k4 k5 k6 k7 k8 k9 k10 : Tok) (oD : Obj) (prs : List (Str × Value)) (f1 : Str) (a1 b1 w0 w1 h0 h1 : Int) (hD : oD.IsDictOf (PySem.strKind PR w) prs) (hlo : (pt == sysModules) = false) (hne : (prs.length == 0) = false) (hgx : valueAt prs "rx" = some (.ref px)) (hgy : valueAt prs "ry" = none) (ha1 : -100000 < a1 ∧ a1 < 100000) (hb1 : 0 < b1 ∧ b1 < 100000) (hw0 : -100000 < w0 ∧ w0 < 100000) (hw1 : 0 < w1 ∧ w1 < 100000) (hh0 : -100000 < h0 ∧ h0 < 100000) (hh1 : 0 < h1 ∧ h1 < 100000) :
    TellN w mean mg mb 10 328 [.ref pt, .ref pwd, .ref phd] [(pt, oD), (px, tupO [.ref qx, .str f1 k1]), (qx, tupO [.int a1 k2, .int b1 k3]), (pwd, tupO [.int w0 k7, .int w1 k8]), (phd, tupO [.int h0 k9, .int h1 k10])]
      (fun r tl => if f1 = "" then dueOk (lstH a1 b1 w0 w1) (lstH a1 b1 h0 h1) r tl else dueBad f1 r tl) := by
  intro dp un gd cn cs a ccd cl outer A₀ base h₀ L m news s Q E B F X N T hk hR hd hu hret
  have m0 := hR _ (List.Mem.head _)
  have m1 := hR _ (List.Mem.tail _ (List.Mem.head _))
  have m2 := hR _ (List.Mem.tail _ (List.Mem.tail _ (List.Mem.head _)))
  have m3 := hR _ (List.Mem.tail _ (List.Mem.tail _ (List.Mem.tail _ (List.Mem.head _))))
  have m4 := hR _ (List.Mem.tail _ (List.Mem.tail _ (List.Mem.tail _ (List.Mem.tail _ (List.Mem.head _)))))
  refine wpAny_call ?_
  k_with_none
  k_dflt walk_at "my enter"
  k_steps
  · exact retN hret (due_j1 (by assumption) ⟨_, _, rfl, rfl⟩) (by k_asm) (by assumption) (by walk_at "my pre") (by walk_at "my keep")
  · exact retN hret (due_j3 (by assumption) ⟨_, _, _, _, _, _, _, _, _, rfl, rfl⟩) (by k_asm) (by assumption) (by walk_at "my pre") (by walk_at "my keep")
set_option maxHeartbeats 4000000 in
theorem t_dueY (w : World) (mean : ExcName → Option Value) (mg mb : Str → Option Value) (pt py qy pwd phd : Addr) (k1 k2 k3 k4 k5 k6 k7 k8 k9 k10 : Tok) (oD : Obj) (prs : List (Str × Value)) (f2 : Str) (a2 b2 w0 w1 h0 h1 : Int) (hD : oD.IsDictOf (PySem.strKind PR w) prs) (hlo : (pt == sysModules) = false) (hne : (prs.length == 0) = false) (hgx : valueAt prs "rx" = none) (hgy : valueAt prs "ry" = some (.ref py)) (ha2 : -100000 < a2 ∧ a2 < 100000) (hb2 : 0 < b2 ∧ b2 < 100000) (hw0 : -100000 < w0 ∧ w0 < 100000) (hw1 : 0 < w1 ∧ w1 < 100000) (hh0 : -100000 < h0 ∧ h0 < 100000) (hh1 : 0 < h1 ∧ h1 < 100000) :
    TellN w mean mg mb 10 328 [.ref pt, .ref pwd, .ref phd] [(pt, oD), (py, tupO [.ref qy, .str f2 k4]), (qy, tupO [.int a2 k5, .int b2 k6]), (pwd, tupO [.int w0 k7, .int w1 k8]), (phd, tupO [.int h0 k9, .int h1 k10])]
      (fun r tl => if f2 = "" then dueOk (lstH a2 b2 w0 w1) (lstH a2 b2 h0 h1) r tl else dueBad f2 r tl) := by
  intro dp un gd cn cs a ccd cl outer A₀ base h₀ L m news s Q E B F X N T hk hR hd hu hret
  have m0 := hR _ (List.Mem.head _)
  have m1 := hR _ (List.Mem.tail _ (List.Mem.head _))
  have m2 := hR _ (List.Mem.tail _ (List.Mem.tail _ (List.Mem.head _)))
  have m3 := hR _ (List.Mem.tail _ (List.Mem.tail _ (List.Mem.tail _ (List.Mem.head _))))
  have m4 := hR _ (List.Mem.tail _ (List.Mem.tail _ (List.Mem.tail _ (List.Mem.tail _ (List.Mem.head _)))))
  refine wpAny_call ?_
  k_with_none
  k_dflt walk_at "my enter"
  k_steps
  · exact retN hret (due_j1 (by assumption) ⟨_, _, rfl, rfl⟩) (by k_asm) (by assumption) (by walk_at "my pre") (by walk_at "my keep")
  · exact retN hret (due_j3 (by assumption) ⟨_, _, _, _, _, _, _, _, _, rfl, rfl⟩) (by k_asm) (by assumption) (by walk_at "my pre") (by walk_at "my keep")
set_option maxHeartbeats 4000000 in
theorem t_due0 (w : World) (mean : ExcName → Option Value) (mg mb : Str → Option Value) (pt pwd phd : Addr) (oD : Obj) (hD : oD.IsDictOf (PySem.strKind PR w) []) (hlo : (pt == sysModules) = false) :
    TellN w mean mg mb 10 328 [.ref pt, .ref pwd, .ref phd] [(pt, oD)] (fun r tl => dueOk (0, 1) (0, 1) r tl) := by
  intro dp un gd cn cs a ccd cl outer A₀ base h₀ L m news s Q E B F X N T hk hR hd hu hret
  have m0 := hR _ (List.Mem.head _)
  refine wpAny_call ?_
  k_with_none
  k_dflt walk_at "my enter"
  k_steps
  exact retN hret ⟨_, _, _, _, _, _, _, _, _, rfl, rfl⟩ (by k_asm) (by assumption) (by walk_at "my pre") (by walk_at "my keep")
theorem reset_P3 : True := by
  w_top off
  trivial
theorem menu_ok {name t f : Str} {wv lv a b : Int} (h : (t, a, b, f) ∈ menu name wv lv) (hn : name = "rx" ∨ name = "ry") : PyData.strOk f = true := by
  rcases hn with e | e
  · rw [e, menuX] at h
    simp only [List.mem_cons, Prod.mk.injEq, List.not_mem_nil, or_false] at h
    rcases h with ⟨_, _, _, rfl⟩ | ⟨_, _, _, rfl⟩ | ⟨_, _, _, rfl⟩ | ⟨_, _, _, rfl⟩ | ⟨_, _, _, rfl⟩ | ⟨_, _, _, rfl⟩ | ⟨_, _, _, rfl⟩ | ⟨_, _, _, rfl⟩ | ⟨_, _, _, rfl⟩ | ⟨_, _, _, rfl⟩ | ⟨_, _, _, rfl⟩ | ⟨_, _, _, rfl⟩
    all_goals decide +kernel
  · rw [e, menuY] at h
    simp only [List.mem_cons, Prod.mk.injEq, List.not_mem_nil, or_false] at h
    rcases h with ⟨_, _, _, rfl⟩ | ⟨_, _, _, rfl⟩ | ⟨_, _, _, rfl⟩ | ⟨_, _, _, rfl⟩ | ⟨_, _, _, rfl⟩ | ⟨_, _, _, rfl⟩ | ⟨_, _, _, rfl⟩ | ⟨_, _, _, rfl⟩ | ⟨_, _, _, rfl⟩ | ⟨_, _, _, rfl⟩ | ⟨_, _, _, rfl⟩ | ⟨_, _, _, rfl⟩
    all_goals decide +kernel
theorem bad_shaped {f : Str} (h : PyData.strOk f = true) : SeqAt.shaped (.tuple [.none, .str f]) = true := by
  simp [SeqAt.shaped, PyData.canLay0, PyData.canLayAll0, h, PyData.depth, PyData.depthAll]
theorem rd_ok (w : World) {u v : Int × Int} {p p0 q1 q2 : Addr} {t0 t1 t2 t3 t4 : Tok} : RdT w (okD u v) (.ref p) [(p, tupO [.ref p0, .str "" t0]), (p0, tupO [.ref q1, .ref q2]), (q1, tupO [.int u.1 t1, .int u.2 t2]), (q2, tupO [.int v.1 t3, .int v.2 t4])] := fun _ _ _ _ _ _ N =>
  rd_tup N (.head _) (rd_cons (rd_tup N (.tail _ (.head _)) (rd_cons (rd_pair N (.tail _ (.tail _ (.head _)))) (rd_cons (rd_pair N (.tail _ (.tail _ (.tail _ (.head _))))) rd_nil))) (rd_cons rd_str rd_nil))
def ToldAt (name : Str) (prs : List (Str × Value)) (oth : List (Addr × Obj)) : Cell → Prop
  | none => valueAt prs name = none
  | some (a, b, f) => ∃ (p q : Addr) (k1 k2 k3 : Tok), valueAt prs name = some (.ref p) ∧ (p, tupO [.ref q, .str f k1]) ∈ oth ∧ (q, tupO [.int a k2, .int b k3]) ∈ oth
theorem tellN_mono {w : World} {mean : ExcName → Option Value} {mg mb : Str → Option Value} {n : Nat} {f : Addr} {vs : List Value} {pre pre' : List (Addr × Obj)} {Out Out' : Value → List (Addr × Obj) → Prop} (C : TellN w mean mg mb n f vs pre Out) (hp : ∀ q ∈ pre, q ∈ pre') (h : ∀ r tl, Out r tl → Out' r tl) : TellN w mean mg mb n f vs pre' Out' :=
  fun dp un gd cn cs a ccd cl outer A₀ base h₀ L m news s Q E B F X N T hk hR hd hu hret => C dp un gd cn cs a ccd cl outer A₀ base h₀ L m news s Q E B F X N T hk (fun q hq => hR q (hp q hq)) hd hu fun r tl h' tk' F' N' ho => hret r tl h' tk' F' N' (h r tl ho)
theorem rd_ansOk (w : World) {u v : Int × Int} {r : Value} {tl : List (Addr × Obj)} {x : PyData} (e : x = okD u v) (h : ∃ p p0 q1 q2 t0 t1 t2 t3 t4, r = .ref p ∧ tl = [(p, tupO [.ref p0, .str "" t0]), (p0, tupO [.ref q1, .ref q2]), (q1, tupO [.int u.1 t1, .int u.2 t2]), (q2, tupO [.int v.1 t3, .int v.2 t4])]) : RdT w x r tl := by
  obtain ⟨p, p0, q1, q2, t0, t1, t2, t3, t4, rfl, rfl⟩ := h
  rw [e]
  exact rd_ok w
theorem rd_ansBad (w : World) {f : Str} {r : Value} {tl : List (Addr × Obj)} {x : PyData} (e : x = badD f) (h : ∃ p t0, r = .ref p ∧ tl = [(p, tupO [.none, .str f t0])]) : RdT w x r tl := by
  obtain ⟨p, t0, rfl, rfl⟩ := h
  rw [e]
  exact rd_bad w
theorem pre_all {pre oth : List (Addr × Obj)} {a b : Addr × Obj} : (∀ q ∈ pre, q = a ∨ q = b ∨ q ∈ oth) → ∀ q ∈ pre, q ∈ a :: b :: oth := fun h q hq => by
  rcases h q hq with e | e | e
  · exact e ▸ .head _
  · exact e ▸ .tail _ (.head _)
  · exact .tail _ (.tail _ e)
theorem t_due (w : World) (mean : ExcName → Option Value) (mg mb : Str → Option Value) (pt pwd phd : Addr) (k7 k8 k9 k10 : Tok) (oD : Obj) (prs : List (Str × Value)) (oth : List (Addr × Obj)) (W H l w0 w1 h0 h1 : Int) (ox oy : Cell) (prsT : List (Str × Value)) (hD : oD.IsDictOf (PySem.strKind PR w) prs) (hlo : (pt == sysModules) = false) (hm : (pt, oD) ∈ oth) (hW : 1 ≤ W ∧ W ≤ 40) (hH : 1 ≤ H ∧ H ≤ 40) (hl : 1 ≤ l ∧ l ≤ 20) (sw : SideOk w0 w1) (sh : SideOk h0 h1) (tx : TxtAt "rx" W l prsT ox) (ty : TxtAt "ry" H l prsT oy) (hx : ToldAt "rx" prs oth ox) (hy : ToldAt "ry" prs oth oy) (h0' : ox = none → oy = none → prs = []) :
    TellN w mean mg mb 10 328 [.ref pt, .ref pwd, .ref phd] ((pwd, tupO [.int w0 k7, .int w1 k8]) :: (phd, tupO [.int h0 k9, .int h1 k10]) :: oth) (RdT w (dueX ox oy w0 w1 h0 h1)) := by
  have w1' : 0 < w1 ∧ w1 < 100000 := ⟨sw.1.1, by have := sw.1.2; omega⟩
  have h1' : 0 < h1 ∧ h1 < 100000 := ⟨sh.1.1, by have := sh.1.2; omega⟩
  have ne : ∀ (name : Str) (v : Value), valueAt prs name = some v → (prs.length == 0) = false := by
    intro name v e
    cases prs with
    | nil => cases e
    | cons _ _ => rfl
  rcases ox with _ | ⟨a, b, f⟩ <;> rcases oy with _ | ⟨a', b', f'⟩
  · have := h0' rfl rfl
    subst this
    refine tellN_mono (t_due0 w mean mg mb pt pwd phd oD hD hlo) (pre_all ?_) fun r tl ho => rd_ansOk w rfl ho
    intro q hq
    rcases List.mem_cons.mp hq with e | hq
    · exact .inr (.inr (e ▸ hm))
    · cases hq
  · obtain ⟨p, q, k1, k2, k3, e, m1, m2⟩ := hy
    obtain ⟨t, k, _, hmn⟩ := ty
    have bd := menu_b hmn hH hl
    refine tellN_mono (t_dueY w mean mg mb pt p q pwd phd 0 0 0 k1 k2 k3 k7 k8 k9 k10 oD prs f' a' b' w0 w1 h0 h1 hD hlo (ne _ _ e) hx e bd.1 bd.2 sw.2.1 w1' sh.2.1 h1') (pre_all ?_) fun r tl ho => ?_
    · intro q hq
      simp only [List.mem_cons, List.not_mem_nil, or_false] at hq
      rcases hq with rfl | rfl | rfl | rfl | rfl
      · exact .inr (.inr hm)
      · exact .inr (.inr m1)
      · exact .inr (.inr m2)
      · exact .inl rfl
      · exact .inr (.inl rfl)
    · by_cases z : f' = ""
      · rw [if_pos z] at ho; exact rd_ansOk w (by simp only [dueX, if_pos z]) ho
      · rw [if_neg z] at ho; exact rd_ansBad w (by simp only [dueX, if_neg z]) ho
  · obtain ⟨p, q, k1, k2, k3, e, m1, m2⟩ := hx
    obtain ⟨t, k, _, hmn⟩ := tx
    have bd := menu_b hmn hW hl
    refine tellN_mono (t_dueX w mean mg mb pt p q pwd phd k1 k2 k3 0 0 0 k7 k8 k9 k10 oD prs f a b w0 w1 h0 h1 hD hlo (ne _ _ e) e hy bd.1 bd.2 sw.2.1 w1' sh.2.1 h1') (pre_all ?_) fun r tl ho => ?_
    · intro q hq
      simp only [List.mem_cons, List.not_mem_nil, or_false] at hq
      rcases hq with rfl | rfl | rfl | rfl | rfl
      · exact .inr (.inr hm)
      · exact .inr (.inr m1)
      · exact .inr (.inr m2)
      · exact .inl rfl
      · exact .inr (.inl rfl)
    · by_cases z : f = ""
      · rw [if_pos z] at ho; exact rd_ansOk w (by simp only [dueX, if_pos z]) ho
      · rw [if_neg z] at ho; exact rd_ansBad w (by simp only [dueX, if_neg z]) ho
  · obtain ⟨p, q, k1, k2, k3, e, m1, m2⟩ := hx
    obtain ⟨p', q', k4, k5, k6, e', m3, m4⟩ := hy
    obtain ⟨t, k, _, hmn⟩ := tx
    obtain ⟨t', k', _, hmn'⟩ := ty
    have bd := menu_b hmn hW hl
    have bd' := menu_b hmn' hH hl
    refine tellN_mono (t_due2 w mean mg mb pt p q p' q' pwd phd k1 k2 k3 k4 k5 k6 k7 k8 k9 k10 oD prs f f' a b a' b' w0 w1 h0 h1 hD hlo (ne _ _ e) e e' bd.1 bd.2 bd'.1 bd'.2 sw.2.1 w1' sh.2.1 h1') (pre_all ?_) fun r tl ho => ?_
    · intro q hq
      simp only [List.mem_cons, List.not_mem_nil, or_false] at hq
      rcases hq with rfl | rfl | rfl | rfl | rfl | rfl | rfl
      · exact .inr (.inr hm)
      · exact .inr (.inr m1)
      · exact .inr (.inr m2)
      · exact .inr (.inr m3)
      · exact .inr (.inr m4)
      · exact .inl rfl
      · exact .inr (.inl rfl)
    · by_cases z : f = ""
      · rw [if_pos z] at ho
        by_cases z' : f' = ""
        · rw [if_pos z'] at ho; exact rd_ansOk w (by simp only [dueX, if_pos z, if_pos z']) ho
        · rw [if_neg z'] at ho; exact rd_ansBad w (by simp only [dueX, if_pos z, if_neg z']) ho
      · rw [if_neg z] at ho; exact rd_ansBad w (by simp only [dueX, if_neg z]) ho
theorem ok_shaped (u v : Int × Int) : SeqAt.shaped (okD u v) = true := by
  have e : PyData.strOk "" = true := by decide +kernel
  simp [SeqAt.shaped, okD, PyData.canLay0, PyData.canLayAll0, e, PyData.depth, PyData.depthAll]
theorem due_shaped {W H l : Int} {prsT : List (Str × Value)} {ox oy : Cell} {w0 w1 h0 h1 : Int} (tx : TxtAt "rx" W l prsT ox) (ty : TxtAt "ry" H l prsT oy) : SeqAt.shaped (dueX ox oy w0 w1 h0 h1) = true := by
  rcases ox with _ | ⟨a, b, f⟩ <;> rcases oy with _ | ⟨a', b', f'⟩
  · exact ok_shaped _ _
  · obtain ⟨t, k, _, hm⟩ := ty
    simp only [dueX]; split
    · exact ok_shaped _ _
    · exact bad_shaped (menu_ok hm (.inr rfl))
  · obtain ⟨t, k, _, hm⟩ := tx
    simp only [dueX]; split
    · exact ok_shaped _ _
    · exact bad_shaped (menu_ok hm (.inl rfl))
  · obtain ⟨t, k, _, hm⟩ := tx
    obtain ⟨t', k', _, hm'⟩ := ty
    simp only [dueX]; split
    · split
      · exact ok_shaped _ _
      · exact bad_shaped (menu_ok hm' (.inr rfl))
    · exact bad_shaped (menu_ok hm (.inl rfl))
theorem reset_P4 : True := by
  w_top off
  trivial
theorem keep_at {l : List (Addr × Obj)} (i j : Nat) : ∀ p ∈ (l.drop i).take 1 ++ l.drop j, p ∈ l := fun _ hp => (List.mem_append.mp hp).elim (fun h => List.mem_of_mem_drop (List.mem_of_mem_take h)) List.mem_of_mem_drop
/-- the state behind the law's loop -/
def After (w : World) (h₀ : Heap) (L D : Addr) (W H l : Int) (s1 s2 s3 : Tok) (d0 d1 ps : Addr) (h : Heap) : Prop :=
  ∃ (m : Str → Option Value) (x y : Int) (tx ty : Tok) (n : Nat) (oth : List (Addr × Obj)) (oT oD : Obj) (prsT prsD : List (Str × Value)) (ox oy : Cell),
    Fr h₀ L h (fun (z : Str) => if z = "source" then some (.ref ps) else if z = "texts" then some (.ref d0) else if z = "told" then some (.ref d1) else if z = "sizes" then some (.ref D) else m z) ∧ News h₀ L h ((ps, srcO x y tx ty n) :: oth) ∧ 0 ≤ x ∧ (0 ≤ y ∧ y < 2147483647) ∧ (∀ p ∈ oth, p.1 ≠ ps) ∧
    ((d0, oT) ∈ oth ∧ (d1, oD) ∈ oth ∧ (D, tupO [.int W s1, .int H s2, .int l s3]) ∈ oth) ∧ oT.IsDictOf (PySem.strKind PR w) prsT ∧ oD.IsDictOf (PySem.strKind PR w) prsD ∧ (TxtAt "rx" W l prsT ox ∧ TxtAt "ry" H l prsT oy) ∧ (ToldAt "rx" prsD oth ox ∧ ToldAt "ry" prsD oth oy) ∧ (ox = none → oy = none → prsD = [])
theorem for_cut {w : World} {A : Around} {E : Value → Shared → Prop} {s : Shared} {h₀ : Heap} {L D : Addr} {W H l : Int} {s1 s2 s3 : Tok} {d0 d1 ps : Addr} {st : Stmt} {env : Env} {Q : Flow → Shared → Prop}
    {D1 : Addr} {o1 oD oT src : Obj} {more : List (Addr × Obj)}
    (_ : News h₀ L s.heap ((D, tupO [.int W s1, .int H s2, .int l s3]) :: (D1, o1) :: (d1, oD) :: (d0, oT) :: (ps, src) :: more)) (h : wpAny (model PR w) A (exec st env) (fun f s' => Stopped (f = .next ∧ ∃ h tk, s' = { s with heap := h, toks := tk } ∧ After w h₀ L D W H l s1 s2 s3 d0 d1 ps h)) E s)
    (k : ∀ h tk, After w h₀ L D W H l s1 s2 s3 d0 d1 ps h → Q .next { s with heap := h, toks := tk }) : wpAny (model PR w) A (exec st env) Q E s :=
  wpAny_mono h (fun f s' z => by
    obtain ⟨e, h, tk, e', a⟩ := z
    subst e
    subst e'
    exact k h tk a) (fun _ _ h => h)
def rest (ps : Addr) (news : List (Addr × Obj)) : List (Addr × Obj) := news.filter fun p => decide (p.1 ≠ ps)
theorem rest_mem {ps : Addr} {news : List (Addr × Obj)} {p : Addr} {o : Obj} (h : (p, o) ∈ news) (hne : p ≠ ps) : (p, o) ∈ rest ps news := List.mem_filter.mpr ⟨h, decide_eq_true hne⟩
theorem told_some {ps p q : Addr} {a b : Int} {f name : Str} {k1 k2 k3 : Tok} {prs : List (Str × Value)} {news : List (Addr × Obj)} (e : valueAt prs name = some (.ref p)) (h1 : (p, tupO [.ref q, .str f k1]) ∈ news) (n1 : p ≠ ps) (h2 : (q, tupO [.int a k2, .int b k3]) ∈ news) (n2 : q ≠ ps) : ToldAt name prs (rest ps news) (some (a, b, f)) :=
  ⟨p, q, k1, k2, k3, e, rest_mem h1 n1, rest_mem h2 n2⟩
theorem txt_some {name t f : Str} {k : Tok} {wv lv a b : Int} {prs : List (Str × Value)} (e : valueAt prs name = some (.str t k)) (h : (t, a, b, f) ∈ menu name wv lv) : TxtAt name wv lv prs (some (a, b, f)) := ⟨t, k, e, h⟩
theorem after_of {w : World} {h₀ h : Heap} {L D : Addr} {W H l : Int} {s1 s2 s3 : Tok} {d0 d1 ps : Addr} {m : Str → Option Value} {x y : Int} {tx ty : Tok} {n : Nat} {news : List (Addr × Obj)} {oT oD : Obj} {prsT prsD : List (Str × Value)} {ox oy : Cell} (F : Fr h₀ L h m) (N : News h₀ L h news)
    (e1 : m "source" = some (.ref ps)) (e2 : m "texts" = some (.ref d0)) (e3 : m "told" = some (.ref d1)) (e4 : m "sizes" = some (.ref D)) (hs : (ps, srcO x y tx ty n) ∈ news) (hx : 0 ≤ x) (hy : 0 ≤ y) (hy' : y < 2147483647) (hT : (d0, oT) ∈ news) (nT : d0 ≠ ps) (hD : (d1, oD) ∈ news) (nD : d1 ≠ ps) (hz : (D, tupO [.int W s1, .int H s2, .int l s3]) ∈ news) (nz : D ≠ ps)
    (iT : oT.IsDictOf (PySem.strKind PR w) prsT) (iD : oD.IsDictOf (PySem.strKind PR w) prsD) (t1 : TxtAt "rx" W l prsT ox) (t2 : TxtAt "ry" H l prsT oy) (o1 : ToldAt "rx" prsD (rest ps news) ox) (o2 : ToldAt "ry" prsD (rest ps news) oy) (hn : ox = none → oy = none → prsD = []) : After w h₀ L D W H l s1 s2 s3 d0 d1 ps h := by
  refine ⟨m, x, y, tx, ty, n, rest ps news, oT, oD, prsT, prsD, ox, oy, ?_, ?_, hx, ⟨hy, hy'⟩, ?_, ⟨rest_mem hT nT, rest_mem hD nD, rest_mem hz nz⟩, iT, iD, ⟨t1, t2⟩, ⟨o1, o2⟩, hn⟩
  · have e : (fun (z : Str) => if z = "source" then some (.ref ps) else if z = "texts" then some (.ref d0) else if z = "told" then some (.ref d1) else if z = "sizes" then some (.ref D) else m z) = m := by
      funext z
      split
      · next q => rw [q, e1]
      · split
        · next q => rw [q, e2]
        · split
          · next q => rw [q, e3]
          · split
            · next q => rw [q, e4]
            · rfl
    rw [e]
    exact F
  · refine cb_drop N (List.forall_mem_cons.mpr ⟨hs, fun p hp => (List.mem_filter.mp hp).1⟩)
  · intro p hp
    exact of_decide_eq_true (List.mem_filter.mp hp).2
theorem side_ok {z d : Int} (hz : 0 ≤ z) (hz' : z < 41) (hd : 0 ≤ d) (hd' : d < 4) : SideOk (fr1 z (1 + d)) (fr2 z (1 + d)) := side_b hz hz' hd hd'
theorem reset_P5 : True := by
  w_top off
  trivial
theorem unrPost_mono {h₀ : Heap} {L : Addr} {s₁ : Shared} {I : Addr} {it : Obj} {r1 r2 : (Str → Option Value) → List (Addr × Obj) → Prop} {Q : Flow → Shared → Prop} {f : Flow} {s₂ : Shared} (h : UnrPost h₀ L s₁ I it r1 Q f s₂) (hr : ∀ m n, r1 m n → r2 m n) : UnrPost h₀ L s₁ I it r2 Q f s₂ := by
  have e : UnrEnd h₀ L s₁ I it r1 s₂ → UnrEnd h₀ L s₁ I it r2 s₂ := fun ⟨h', tk, m', n', e, F, N, o, r⟩ => ⟨h', tk, m', n', e, F, N, o, hr _ _ r⟩
  cases f with
  | ret v => exact h
  | brk => exact h
  | next => exact e h
  | cont => exact e h
def IsName (v : Value) : Prop := ∃ (name : Str) (t : Tok), v = .str name t ∧ (name = "rx" ∨ name = "ry")
theorem loop_names {prog : Program} {w : World} {A : Around} {E : Value → Shared → Prop} {s : Shared} {h₀ : Heap} {env : Env} {x : Str} {body : List Stmt} {Q : Flow → Shared → Prop} {r : Addr} {vs : List Value} {n : Nat} {m₀ : Str → Option Value} {news : List (Addr × Obj)} (J : Addr → (Str → Option Value) → List (Addr × Obj) → Prop)
    (hh : A.handled = none) (F : Fr h₀ env.locals s.heap m₀) (N : News h₀ env.locals s.heap news) (hm : (r, listOf vs.toArray n) ∈ news) (hv : ∀ v ∈ vs, IsName v) (h0 : ∀ I, (∀ p ∈ news, p.1 < I) → J I m₀ news)
    (turn : ∀ I (name : Str) (t : Tok), (name = "rx" ∨ name = "ry") → ∀ m news1, J I m news1 → ∀ (it : Obj) h tk, Fr h₀ env.locals h (fun y => if y = x then some (.str name t) else m y) → News h₀ env.locals h ((I, it) :: news1) →
      wpAny (model prog w) A (execs body env) (fun f s' => Stopped (UnrPost h₀ env.locals { s with heap := h, toks := tk } I it (fun m' n' => (r, listOf vs.toArray n) ∈ n' ∧ J I m' n') Q f s')) E { s with heap := h, toks := tk })
    (done : ∀ I m news1, J I m news1 → ∀ h tk, Fr h₀ env.locals h m → News h₀ env.locals h news1 → Q .next { s with heap := h, toks := tk }) :
    wpAny (model prog w) A (pyIter (.ref r)) (fun it s₂ => LoopAtV prog w A h₀ env x body Q E it s₂) E s := by
  refine iter_listUnr (vs := vs) hh F N hm rfl rfl fun I hI => ?_
  have key : ∀ (ws : List Value), (∀ v ∈ ws, IsName v) → ∀ m news1, J I m news1 → ListRest prog w A E h₀ env x body Q s I (r, listOf vs.toArray n) ws m news1 := by
    intro ws
    induction ws with
    | nil => exact fun _ m news1 hJ => ListRest.zero fun h tk F N => done I m news1 hJ h tk F N
    | cons v ws ih =>
      intro hw m news1 hJ
      obtain ⟨name, t, rfl, hn⟩ := hw v (.head _)
      refine ListRest.succ fun it h tk _ F N => wpAny_mono (turn I name t hn m news1 hJ it h tk F N) (fun f s' z => unrPost_mono (stop_out z) fun m' n' ⟨h1, h2⟩ => ⟨h1, ih (fun v hv => hw v (.tail _ hv)) m' n' h2⟩) (fun _ _ h => h)
  exact key vs hv m₀ news (h0 I hI)
/-- the names that stand in the law's frame -/
def names4 (ps d0 d1 D : Addr) (m : Str → Option Value) : Str → Option Value := fun (z : Str) => if z = "source" then some (.ref ps) else if z = "texts" then some (.ref d0) else if z = "told" then some (.ref d1) else if z = "sizes" then some (.ref D) else m z
theorem names4_is {m : Str → Option Value} {ps d0 d1 D : Addr} (e1 : m "source" = some (.ref ps)) (e2 : m "texts" = some (.ref d0)) (e3 : m "told" = some (.ref d1)) (e4 : m "sizes" = some (.ref D)) : names4 ps d0 d1 D m = m := by
  funext z
  unfold names4
  split
  · next q => rw [q, e1]
  · split
    · next q => rw [q, e2]
    · split
      · next q => rw [q, e3]
      · split
        · next q => rw [q, e4]
        · rfl
/-- only the two names are keys -/
def KeysXY (prs : List (Str × Value)) : Prop := ∀ e ∈ prs, e.1 = "rx" ∨ e.1 = "ry"
theorem keys_stored {prs : List (Str × Value)} {name : Str} {v : Value} (h : KeysXY prs) (hn : name = "rx" ∨ name = "ry") : KeysXY (stored prs name v) := by
  intro e he
  unfold stored at he
  split at he
  · obtain ⟨a, ha, rfl⟩ := List.mem_map.mp he
    by_cases q : a.1 = name
    · simp only [if_pos q]; exact h a ha
    · simp only [if_neg q]; exact h a ha
  · rcases List.mem_append.mp he with z | z
    · exact h e z
    · rw [List.mem_singleton.mp z]; exact hn
theorem keys_len {w : World} {o : Obj} {prs : List (Str × Value)} (h : KeysXY prs) (hd : o.IsDictOf (PySem.strKind PR w) prs) : prs.length ≤ sizeLine := by
  obtain ⟨_, _, _, _, _, _, hn⟩ := hd
  have : prs.length ≤ 2 := by
    match prs, h, hn with
    | [], _, _ => decide
    | [_], _, _ => exact Nat.le_succ 1
    | [_, _], _, _ => exact Nat.le_refl 2
    | a :: b :: c :: r, h, hn =>
      exfalso
      simp only [List.map_cons, List.nodup_cons, List.mem_cons, not_or] at hn
      have ha := h a (.head _)
      have hb := h b (.tail _ (.head _))
      have hc := h c (.tail _ (.tail _ (.head _)))
      obtain ⟨⟨n1, n2, _⟩, ⟨n3, _⟩, _⟩ := hn
      rcases ha with ha | ha <;> rcases hb with hb | hb <;> rcases hc with hc | hc <;> rw [ha, hb] at n1 <;> rw [ha, hc] at n2 <;> rw [hb, hc] at n3 <;> first | exact n1 rfl | exact n2 rfl | exact n3 rfl
  exact Nat.le_trans this (by decide)
/-- what stands between two turns of the law's loop -/
def LInv (w : World) (D : Addr) (W H l : Int) (s1 s2 s3 : Tok) (d0 d1 ps la : Addr) (lo : Obj) (I : Addr) (m : Str → Option Value) (news : List (Addr × Obj)) : Prop :=
  ∃ (m' : Str → Option Value) (x y : Int) (tx ty : Tok) (n : Nat) (oT oD : Obj) (prsT prsD : List (Str × Value)) (ox oy : Cell) (rest : List (Addr × Obj)),
    m = (fun (z : Str) => if z = "source" then some (.ref ps) else if z = "texts" then some (.ref d0) else if z = "told" then some (.ref d1) else if z = "sizes" then some (.ref D) else m' z) ∧ news = (la, lo) :: (ps, srcO x y tx ty n) :: (d0, oT) :: (d1, oD) :: rest ∧ 0 ≤ x ∧ 0 ≤ y ∧ y < 2147483647 ∧
    (∀ p ∈ rest, p.1 ≠ I) ∧ (∀ p ∈ rest, p.1 ≠ ps) ∧ (∀ p ∈ rest, p.1 ≠ d0) ∧ (∀ p ∈ rest, p.1 ≠ d1) ∧ (D, tupO [.int W s1, .int H s2, .int l s3]) ∈ rest ∧ (la ≠ I ∧ ps ≠ I ∧ d0 ≠ I ∧ d1 ≠ I) ∧
    oT.IsDictOf (PySem.strKind PR w) prsT ∧ oD.IsDictOf (PySem.strKind PR w) prsD ∧ KeysXY prsT ∧ KeysXY prsD ∧ TxtAt "rx" W l prsT ox ∧ TxtAt "ry" H l prsT oy ∧ ToldAt "rx" prsD rest ox ∧ ToldAt "ry" prsD rest oy ∧ (ox = none → oy = none → prsD = [])
theorem after_linv {w : World} {h₀ h : Heap} {L D : Addr} {W H l : Int} {s1 s2 s3 : Tok} {d0 d1 ps la : Addr} {lo : Obj} {I : Addr} {m : Str → Option Value} {news : List (Addr × Obj)} (J : LInv w D W H l s1 s2 s3 d0 d1 ps la lo I m news) (n0 : d0 ≠ ps) (n1 : d1 ≠ ps) (F : Fr h₀ L h m) (N : News h₀ L h news) : After w h₀ L D W H l s1 s2 s3 d0 d1 ps h := by
  obtain ⟨m', x, y, tx, ty, n, oT, oD, prsT, prsD, ox, oy, rest, rfl, rfl, hx, hy, hy', a0, a1, a2, a3, hD, b, iT, iD, _, _, t1, t2, o1, o2, hn⟩ := J
  refine ⟨m', x, y, tx, ty, n, (d0, oT) :: (d1, oD) :: rest, oT, oD, prsT, prsD, ox, oy, F, cb_drop N (drop_cons drop_all), hx, ⟨hy, hy'⟩, ?_, ⟨.head _, .tail _ (.head _), .tail _ (.tail _ hD)⟩, iT, iD, ⟨t1, t2⟩, ⟨?_, ?_⟩, hn⟩
  · exact List.forall_mem_cons.mpr ⟨n0, List.forall_mem_cons.mpr ⟨n1, a1⟩⟩
  · rcases ox with _ | ⟨a, b, f⟩
    · exact o1
    · obtain ⟨p, q, k1, k2, k3, e, h1, h2⟩ := o1
      exact ⟨p, q, k1, k2, k3, e, .tail _ (.tail _ h1), .tail _ (.tail _ h2)⟩
  · rcases oy with _ | ⟨a, b, f⟩
    · exact o2
    · obtain ⟨p, q, k1, k2, k3, e, h1, h2⟩ := o2
      exact ⟨p, q, k1, k2, k3, e, .tail _ (.tail _ h1), .tail _ (.tail _ h2)⟩
theorem reset_P6 : True := by
  w_top off
  trivial
theorem va_same {kvs : List (Str × Value)} {k : Str} {v : Value} : valueAt (stored kvs k v) k = some v := by
  unfold stored valueAt
  by_cases h : kvs.any (fun kv => decide (kv.1 = k)) = true
  · rw [if_pos h]
    induction kvs with
    | nil => cases h
    | cons a r ih =>
      rw [List.map_cons, List.find?_cons]
      by_cases q : a.1 = k
      · simp [q]
      · have h' : r.any (fun kv => decide (kv.1 = k)) = true := by simpa [q] using h
        have := ih h'
        simpa [q] using this
  · rw [if_neg h]
    induction kvs with
    | nil => simp
    | cons a r ih =>
      have q : ¬ a.1 = k := fun e => h (by simp [e])
      have h' : ¬ r.any (fun kv => decide (kv.1 = k)) = true := fun z => h (by simp [z])
      have := ih h'
      simpa [q] using this
theorem va_other {kvs : List (Str × Value)} {k k' : Str} {v : Value} (hk : k ≠ k') : valueAt (stored kvs k v) k' = valueAt kvs k' := by
  unfold stored valueAt
  by_cases h : kvs.any (fun kv => decide (kv.1 = k)) = true
  · rw [if_pos h]
    clear h
    induction kvs with
    | nil => rfl
    | cons a r ih =>
      rw [List.map_cons, List.find?_cons, List.find?_cons]
      by_cases q : a.1 = k
      · have q' : ¬ a.1 = k' := fun e => hk (q.symm.trans e)
        simpa [q, hk] using ih
      · by_cases q' : a.1 = k'
        · simp [q, q', Ne.symm hk]
        · simpa [q, q'] using ih
  · rw [if_neg h]
    clear h
    induction kvs with
    | nil => simp [hk]
    | cons a r ih =>
      rw [List.cons_append, List.find?_cons, List.find?_cons]
      by_cases q' : a.1 = k'
      · simp [q']
      · simpa [q'] using ih
theorem rx_ry : ("rx" : Str) ≠ "ry" := by decide
theorem told_same {name : Str} {prs : List (Str × Value)} {rest : List (Addr × Obj)} {p q : Addr} {a b : Int} {f : Str} {k1 k2 k3 : Tok} : ToldAt name (stored prs name (.ref p)) ((p, tupO [.ref q, .str f k1]) :: (q, tupO [.int a k2, .int b k3]) :: rest) (some (a, b, f)) := ⟨p, q, k1, k2, k3, va_same, .head _, .tail _ (.head _)⟩
theorem told_other {name name' : Str} {prs : List (Str × Value)} {rest : List (Addr × Obj)} {v : Value} {z1 z2 : Addr × Obj} {c : Cell} (h : ToldAt name' prs rest c) (hk : name ≠ name') : ToldAt name' (stored prs name v) (z1 :: z2 :: rest) c := by
  rcases c with _ | ⟨a, b, f⟩
  · exact (va_other hk).trans h
  · obtain ⟨p, q, k1, k2, k3, e, h1, h2⟩ := h
    exact ⟨p, q, k1, k2, k3, (va_other hk).trans e, .tail _ (.tail _ h1), .tail _ (.tail _ h2)⟩
theorem txt_same {name t f : Str} {k : Tok} {wv lv a b : Int} {prs : List (Str × Value)} (h : (t, a, b, f) ∈ menu name wv lv) : TxtAt name wv lv (stored prs name (.str t k)) (some (a, b, f)) := ⟨t, k, va_same, h⟩
theorem txt_other {name name' : Str} {wv lv : Int} {prs : List (Str × Value)} {v : Value} {c : Cell} (h : TxtAt name' wv lv prs c) (hk : name ≠ name') : TxtAt name' wv lv (stored prs name v) c := by
  rcases c with _ | ⟨a, b, f⟩
  · exact (va_other hk).trans h
  · obtain ⟨t, k, e, hm⟩ := h
    exact ⟨t, k, (va_other hk).trans e, hm⟩
/-- what a name of the law's loop is -/
def NameOk (name : Str) (W H l Wn : Int) : Prop := ([W, H, l].getD (if (name == ("ry" : Str)) = true then (1 : Int) else 0).toNat 0 = Wn) ∧ name.length < 60 ∧ (1 ≤ Wn ∧ Wn ≤ 40) ∧ ((name = "rx" ∧ Wn = W) ∨ (name = "ry" ∧ Wn = H))
theorem nameOk {name : Str} {W H l : Int} (hn : name = "rx" ∨ name = "ry") (hW : 1 ≤ W ∧ W ≤ 40) (hH : 1 ≤ H ∧ H ≤ 40) : ∃ Wn, NameOk name W H l Wn := by
  rcases hn with rfl | rfl
  · have e : (("rx" : Str) == "ry") = false := by decide +kernel
    exact ⟨W, by rw [e]; rfl, by decide +kernel, hW, .inl ⟨rfl, rfl⟩⟩
  · have e : (("ry" : Str) == "ry") = true := by decide +kernel
    exact ⟨H, by rw [e]; rfl, by decide +kernel, hH, .inr ⟨rfl, rfl⟩⟩
theorem nameOk_of {name : Str} {W H l : Int} {D : Addr} {s1 s2 s3 : Tok} {rest : List (Addr × Obj)} (_ : (D, tupO [.int W s1, .int H s2, .int l s3]) ∈ rest) (hn : name = "rx" ∨ name = "ry") (hW : 1 ≤ W ∧ W ≤ 40) (hH : 1 ≤ H ∧ H ≤ 40) : ∃ Wn, NameOk name W H l Wn := nameOk hn hW hH
theorem linv0 {w : World} {D : Addr} {W H l : Int} {s1 s2 s3 : Tok} {d0 d1 ps la I : Addr} {lo oT oD : Obj} {m : Str → Option Value} {x y : Int} {tx ty : Tok} {n : Nat}
    (e1 : m "source" = some (.ref ps)) (e2 : m "texts" = some (.ref d0)) (e3 : m "told" = some (.ref d1)) (e4 : m "sizes" = some (.ref D)) (hx : 0 ≤ x) (hy : 0 ≤ y) (hy' : y < 2147483647) (iT : oT.IsDictOf (PySem.strKind PR w) []) (iD : oD.IsDictOf (PySem.strKind PR w) []) (n0 : D ≠ ps) (n1 : D ≠ d0) (n2 : D ≠ d1)
    (hI : ∀ p ∈ [(la, lo), (ps, srcO x y tx ty n), (d0, oT), (d1, oD), (D, tupO [.int W s1, .int H s2, .int l s3])], p.1 < I) : LInv w D W H l s1 s2 s3 d0 d1 ps la lo I m [(la, lo), (ps, srcO x y tx ty n), (d0, oT), (d1, oD), (D, tupO [.int W s1, .int H s2, .int l s3])] := by
  have one : ∀ {c : Addr}, D ≠ c → ∀ p ∈ [(D, tupO [.int W s1, .int H s2, .int l s3])], p.1 ≠ c := fun h p hp => by rw [List.mem_singleton.mp hp]; exact h
  exact ⟨m, x, y, tx, ty, n, oT, oD, [], [], none, none, _, (names4_is e1 e2 e3 e4).symm, rfl, hx, hy, hy', one (Nat.ne_of_lt (hI _ (.tail _ (.tail _ (.tail _ (.tail _ (.head _))))))), one n0, one n1, one n2, .head _, ⟨Nat.ne_of_lt (hI _ (.head _)), Nat.ne_of_lt (hI _ (.tail _ (.head _))), Nat.ne_of_lt (hI _ (.tail _ (.tail _ (.head _)))), Nat.ne_of_lt (hI _ (.tail _ (.tail _ (.tail _ (.head _)))))⟩, iT, iD, List.forall_mem_nil _, List.forall_mem_nil _, rfl, rfl, rfl, rfl, fun _ _ => rfl⟩
theorem turn_end {w : World} {h₀ h' : Heap} {L D : Addr} {W H l : Int} {s1 s2 s3 : Tok} {d0 d1 ps la I : Addr} {lo oT oD it : Obj} {m : Str → Option Value} {x y : Int} {tx ty : Tok} {n : Nat} {s : Shared} {Q : Flow → Shared → Prop} {all rest : List (Addr × Obj)} {prsT prsD : List (Str × Value)} {ox oy : Cell} {name t f : Str} {Wn a b : Int} {p q : Addr} {k k1 k2 k3 : Tok} {tk' : Nat}
    (hN : NameOk name W H l Wn) (row : (t, a, b, f) ∈ menu name Wn l) (F : Fr h₀ L h' m) (N : News h₀ L h' all) (hI : (I, it) ∈ all) (hla : (la, lo) ∈ all) (hs : (ps, srcO x y tx ty n) ∈ all) (hT : (d0, oT) ∈ all) (hD : (d1, oD) ∈ all) (hp : (p, tupO [.ref q, .str f k1]) ∈ all) (hq : (q, tupO [.int a k2, .int b k3]) ∈ all) (hrest : ∀ z ∈ rest, z ∈ all)
    (e1 : m "source" = some (.ref ps)) (e2 : m "texts" = some (.ref d0)) (e3 : m "told" = some (.ref d1)) (e4 : m "sizes" = some (.ref D)) (hx : 0 ≤ x) (hy : 0 ≤ y) (hy' : y < 2147483647)
    (a0 : ∀ p ∈ rest, p.1 ≠ I) (a1 : ∀ p ∈ rest, p.1 ≠ ps) (a2 : ∀ p ∈ rest, p.1 ≠ d0) (a3 : ∀ p ∈ rest, p.1 ≠ d1) (hZ : (D, tupO [.int W s1, .int H s2, .int l s3]) ∈ rest) (bb : la ≠ I ∧ ps ≠ I ∧ d0 ≠ I ∧ d1 ≠ I)
    (iT : oT.IsDictOf (PySem.strKind PR w) (stored prsT name (.str t k))) (iD : oD.IsDictOf (PySem.strKind PR w) (stored prsD name (.ref p))) (hKT : KeysXY prsT) (hKD : KeysXY prsD) (t1 : TxtAt "rx" W l prsT ox) (t2 : TxtAt "ry" H l prsT oy) (o1 : ToldAt "rx" prsD rest ox) (o2 : ToldAt "ry" prsD rest oy)
    (p0 : p ≠ I) (p1 : p ≠ ps) (p2 : p ≠ d0) (p3 : p ≠ d1) (q0 : q ≠ I) (q1 : q ≠ ps) (q2 : q ≠ d0) (q3 : q ≠ d1) :
    UnrPost h₀ L s I it (fun m' n' => (la, lo) ∈ n' ∧ LInv w D W H l s1 s2 s3 d0 d1 ps la lo I m' n') Q .next { s with heap := h', toks := tk' } := by
  have two : ∀ {c : Addr}, p ≠ c → q ≠ c → (∀ z ∈ rest, z.1 ≠ c) → ∀ z ∈ (p, tupO [.ref q, .str f k1]) :: (q, tupO [.int a k2, .int b k3]) :: rest, z.1 ≠ c := fun h1 h2 h3 => List.forall_mem_cons.mpr ⟨h1, List.forall_mem_cons.mpr ⟨h2, h3⟩⟩
  refine UnrEnd.intro F N ((la, lo) :: (ps, srcO x y tx ty n) :: (d0, oT) :: (d1, oD) :: (p, tupO [.ref q, .str f k1]) :: (q, tupO [.int a k2, .int b k3]) :: rest) ?_ ?_ ⟨.head _, ?_⟩
  · exact List.forall_mem_cons.mpr ⟨hI, List.forall_mem_cons.mpr ⟨hla, List.forall_mem_cons.mpr ⟨hs, List.forall_mem_cons.mpr ⟨hT, List.forall_mem_cons.mpr ⟨hD, List.forall_mem_cons.mpr ⟨hp, List.forall_mem_cons.mpr ⟨hq, hrest⟩⟩⟩⟩⟩⟩⟩
  · exact List.forall_mem_cons.mpr ⟨bb.1, List.forall_mem_cons.mpr ⟨bb.2.1, List.forall_mem_cons.mpr ⟨bb.2.2.1, List.forall_mem_cons.mpr ⟨bb.2.2.2, two p0 q0 a0⟩⟩⟩⟩
  · rcases hN.2.2.2 with ⟨rfl, rfl⟩ | ⟨rfl, rfl⟩
    · exact ⟨m, x, y, tx, ty, n, oT, oD, _, _, some (a, b, f), oy, _, (names4_is e1 e2 e3 e4).symm, rfl, hx, hy, hy', two p0 q0 a0, two p1 q1 a1, two p2 q2 a2, two p3 q3 a3, .tail _ (.tail _ hZ), bb, iT, iD, keys_stored hKT (.inl rfl), keys_stored hKD (.inl rfl), txt_same row, txt_other t2 rx_ry, told_same, told_other o2 rx_ry, fun e => nomatch e⟩
    · exact ⟨m, x, y, tx, ty, n, oT, oD, _, _, ox, some (a, b, f), _, (names4_is e1 e2 e3 e4).symm, rfl, hx, hy, hy', two p0 q0 a0, two p1 q1 a1, two p2 q2 a2, two p3 q3 a3, .tail _ (.tail _ hZ), bb, iT, iD, keys_stored hKT (.inr rfl), keys_stored hKD (.inr rfl), txt_other t1 rx_ry.symm, txt_same row, told_other o1 rx_ry.symm, told_same, fun _ e => nomatch e⟩
theorem isn {name : Str} {t : Tok} (h : name = "rx" ∨ name = "ry") : IsName (.str name t) := ⟨name, t, rfl, h⟩
theorem pick_list {h₀ h : Heap} {L : Addr} {o0 zD zD1 z1 z0 zs : Addr × Obj} {a5 a4 a3 a2 a1 a0 : Addr} {n5 n4 n3 n2 n1 n0 : Nat} {u1 u2 u3 u4 u5 u6 u7 u8 : Tok} {r : Value}
    (NN : News h₀ L h [o0, (a5, listOf [.str "ry" u1, .str "rx" u2].toArray n5), (a4, listOf [.str "rx" u3, .str "ry" u4].toArray n4), (a3, listOf [].toArray n3), (a2, listOf [.str "ry" u5].toArray n2), (a1, listOf [.str "rx" u6].toArray n1), (a0, listOf [.str "rx" u7, .str "ry" u8].toArray n0), zD, zD1, z1, z0, zs])
    (hm : r = .ref a0 ∨ r = .ref a1 ∨ r = .ref a2 ∨ r = .ref a3 ∨ r = .ref a4 ∨ r = .ref a5) : ∃ (a : Addr) (vs : List Value) (n : Nat), r = .ref a ∧ (∀ v ∈ vs, IsName v) ∧ News h₀ L h [(a, listOf vs.toArray n), zs, z0, z1, zD] := by
  have back : ∀ {z : Addr × Obj}, z ∈ [o0, (a5, listOf [.str "ry" u1, .str "rx" u2].toArray n5), (a4, listOf [.str "rx" u3, .str "ry" u4].toArray n4), (a3, listOf [].toArray n3), (a2, listOf [.str "ry" u5].toArray n2), (a1, listOf [.str "rx" u6].toArray n1), (a0, listOf [.str "rx" u7, .str "ry" u8].toArray n0), zD, zD1, z1, z0, zs] → News h₀ L h [z, zs, z0, z1, zD] := by
    intro z hz
    refine cb_drop NN (List.forall_mem_cons.mpr ⟨hz, ?_⟩)
    simp
  have l : ("rx" : Str) = "rx" ∨ ("rx" : Str) = "ry" := .inl rfl
  have r' : ("ry" : Str) = "rx" ∨ ("ry" : Str) = "ry" := .inr rfl
  rcases hm with e | e | e | e | e | e
  · exact ⟨_, _, _, e, List.forall_mem_cons.mpr ⟨isn l, List.forall_mem_cons.mpr ⟨isn r', List.forall_mem_nil _⟩⟩, back (List.mem_of_getElem? (i := 6) rfl)⟩
  · exact ⟨_, _, _, e, List.forall_mem_cons.mpr ⟨isn l, List.forall_mem_nil _⟩, back (List.mem_of_getElem? (i := 5) rfl)⟩
  · exact ⟨_, _, _, e, List.forall_mem_cons.mpr ⟨isn r', List.forall_mem_nil _⟩, back (List.mem_of_getElem? (i := 4) rfl)⟩
  · exact ⟨_, _, _, e, List.forall_mem_nil _, back (List.mem_of_getElem? (i := 3) rfl)⟩
  · exact ⟨_, _, _, e, List.forall_mem_cons.mpr ⟨isn l, List.forall_mem_cons.mpr ⟨isn r', List.forall_mem_nil _⟩⟩, back (List.mem_of_getElem? (i := 2) rfl)⟩
  · exact ⟨_, _, _, e, List.forall_mem_cons.mpr ⟨isn r', List.forall_mem_cons.mpr ⟨isn l, List.forall_mem_nil _⟩⟩, back (List.mem_of_getElem? (i := 1) rfl)⟩
theorem dict_cls {o : Obj} {w : World} {prs : List (Str × Value)} (h : o.IsDictOf (PySem.strKind PR w) prs) : o.cls = .type "dict" := by
  obtain ⟨_, _, h, _⟩ := h
  exact h.1
theorem apart_list {w : World} {h₀ h : Heap} {L la ps d0 d1 : Addr} {vs : List Value} {n n' : Nat} {x y : Int} {tx ty : Tok} {oT oD : Obj} {pT pD : List (Str × Value)} {zD : Addr × Obj} (N : News h₀ L h [(la, listOf vs.toArray n), (ps, srcO x y tx ty n'), (d0, oT), (d1, oD), zD]) (hv : ∀ v ∈ vs, IsName v) (iT : oT.IsDictOf (PySem.strKind PR w) pT) (iD : oD.IsDictOf (PySem.strKind PR w) pD) : la ≠ ps ∧ la ≠ d0 ∧ la ≠ d1 := by
  have h1 := (N _ (.head _)).1
  have ld : ∀ {o : Obj}, o.cls = .type "dict" → listOf vs.toArray n ≠ o := by
    intro o ho e
    rw [← e] at ho
    have ho' : Value.type "list" = Value.type "dict" := ho
    injection ho' with q
    exact absurd q (by decide)
  refine ⟨fun e => ?_, fun e => ?_, fun e => ?_⟩
  · have h2 := (N _ (.tail _ (.head _))).1
    dsimp only at h1 h2
    rw [← e, h1] at h2
    have h3 := congrArg Obj.data (Option.some.inj h2)
    have h4 : vs.toArray = [Value.int x tx, .int y ty].toArray := by injection h3
    have h5 : vs = [Value.int x tx, .int y ty] := by simpa using congrArg Array.toList h4
    obtain ⟨_, _, e', _⟩ := hv (.int x tx) (by rw [h5]; exact .head _)
    cases e'
  · have h2 := (N _ (.tail _ (.tail _ (.head _)))).1
    dsimp only at h1 h2
    rw [← e, h1] at h2
    exact ld (dict_cls iT) (Option.some.inj h2)
  · have h2 := (N _ (.tail _ (.tail _ (.tail _ (.head _))))).1
    dsimp only at h1 h2
    rw [← e, h1] at h2
    exact ld (dict_cls iD) (Option.some.inj h2)
theorem reset_Z : True := by
  w_top off
  trivial
theorem top40 : (0 : Int) < 40 ∧ (40 : Int) < 1000 := by decide
theorem top20 : (0 : Int) < 20 ∧ (20 : Int) < 1000 := by decide
theorem top41 : (0 : Int) < 41 ∧ (41 : Int) < 1000 := by decide
theorem top4 : (0 : Int) < 4 ∧ (4 : Int) < 1000 := by decide
-- LOCAL
local macro_rules | `(tactic| walk_at "my use") => `(tactic| ((case k1 | k2 | k3 | k4 | k5 => k_asm); (case kK => first | exact rfl | assumption); (case kd => ktr_room); (case ku => ktr_units)))
local macro_rules | `(tactic| walk_at "compareOp NotEq ref ref") => `(tactic| (k_here; k_dflt (refine ne_dataH (by ke_read) (by ke_read) (by ke_shaped) (by ke_shaped) (by ke_room) ?_); ke_norm))
local macro_rules | `(tactic| walk_at "compareOp Eq ref ref") => `(tactic| (k_here; k_dflt (refine eq_dataH (by ke_read) (by ke_read) (by ke_shaped) (by ke_shaped) (by ke_room) ?_); ke_norm))
local macro_rules | `(tactic| walk_at "pyIter ref") => `(tactic| (k_here; (show wpAny _ _ (pyIter (Value.ref _)) (fun it s₂ => LoopAtV _ _ _ _ _ _ _ _ _ it s₂) _ _); k_listUnr))
local macro_rules | `(tactic| walk_at "call ref") => `(tactic| (k_here; (with_reducible (first | apply at_ref 328 | apply at_ref 335 | apply at_ref 314)); (refine stop_intro ?_)))
local macro_rules | `(tactic| walk_at "my go") => `(tactic| repeat' ((fail_if_success (with_reducible show Stopped _)); (first | (k_unfold; (try dsimp only)) | walk1 | (dsimp only; walk1))))
local macro_rules | `(tactic| walk_at "my side") => `(tactic| with_reducible first | assumption | exact ⟨by assumption, by assumption⟩ | exact sz40 (by assumption) (by assumption) | exact sz20 (by assumption) (by assumption) | exact top40 | exact top20 | exact top41 | exact top4 | omega)
local macro_rules | `(tactic| walk_at "my nm") => `(tactic| first | rfl | decide | k_is)
local macro_rules | `(tactic| k_ne) => `(tactic| first | with_reducible assumption | exact Ne.symm (by with_reducible assumption) | fail)
local macro_rules | `(tactic| walk_at "setItem ref str") => `(tactic| (k_here; k_dflt (refine' kda_set (knd := PySem.strKind _ _) ?F ?N ?U ?d (strKind_is _ _ _ _) ?z ?_; (case F | N => k_asm); (case U => k_updF); (case d | z => assumption)); intro h' o' F' N' hd'; (try dsimp only); (try k_fold)))
-- END LOCAL
theorem cor_first {w : World} {mean : ExcName → Option Value} {mg mb : Str → Option Value} {prs : List (Str × Value)} {tx ty : Tok} (hgx : valueAt prs "rx" = some (.str "1" tx)) (hgy : valueAt prs "ry" = some (.str "2" ty)) :
    CorO w mean mg mb prs 9 9 9 10 1 10 1 (okD (1, 1) (2, 1)) := by
  have e1 : lstH 1 1 10 1 = (1, 1) := by decide +kernel
  have e2 : lstH 2 1 10 1 = (2, 1) := by decide +kernel
  have e : dueX (some (1, 1, "")) (some (2, 1, "")) 10 1 10 1 = okD (1, 1) (2, 1) := by
    show (if ("" : Str) = "" then (if ("" : Str) = "" then okD (lstH 1 1 10 1) (lstH 2 1 10 1) else badD "") else badD "") = _
    rw [if_pos rfl, if_pos rfl, e1, e2]
  have sd : SideOk 10 1 := by unfold SideOk; decide +kernel
  rw [← e]
  exact corB_of hgx hgy (lenO_of (len_r10 _ _ _ _ _ _) (by decide) (by decide) rfl) (lenO_of (len_r11 _ _ _ _ _ _) (by decide) (by decide) rfl) (by decide) (by decide) sd sd
theorem zz.tw17672281553606332185 : True := trivial
theorem zz.tw15490150409521756417 : True := trivial
theorem zz.tw504849113618459759 : True := trivial
theorem zz.tw13614615304231890621 : True := trivial
theorem zz.tw11413995506490691531 : True := trivial
theorem zz.tw2611416301533630913 : True := trivial
theorem zz.tw13842326233013306579 : True := trivial
theorem zz.tw16081556497504351939 : True := trivial
theorem zz.tw1176638177414971553 : True := trivial
theorem zz.tw11153531754205669551 : True := trivial
theorem zz.tw6879178805088685418 : True := trivial
theorem zz.tw18443387416746762156 : True := trivial
theorem zz.tw8302421888747675053 : True := trivial
theorem zz.tw7992201815666823140 : True := trivial
theorem zz.tw16983431692971543096 : True := trivial
theorem zz.tw13056562518862446002 : True := trivial
theorem zz.tw7858627396817530493 : True := trivial
theorem zz.tw12777781849638960821 : True := trivial
theorem zz.tw5727698384770696394 : True := trivial
theorem zz.tw16251187700747696428 : True := trivial
theorem zz.tw10197089287368890274 : True := trivial
theorem zz.tw18038149258852250468 : True := trivial
theorem zz.tw15202354394579270903 : True := trivial
theorem zz.tw18256015373427534309 : True := trivial
theorem zz.tw863561284114592080 : True := trivial
theorem zz.tw13355611014706023571 : True := trivial
theorem zz.tw4379574671412358844 : True := trivial
theorem zz.tw8698427321178995369 : True := trivial
theorem zz.tw15104210978415086203 : True := trivial
theorem zz.tw9235895593104594641 : True := trivial
theorem zz.tw14132187800073980520 : True := trivial
theorem zz.tw1501150924850006239 : True := trivial
theorem zz.tw13524120467544863660 : True := trivial
theorem zz.tw4558828594351307212 : True := trivial
theorem zz.tw2332636806782337360 : True := trivial
theorem zz.tw17833249948860222727 : True := trivial
theorem zz.tw18346864682382008203 : True := trivial
theorem zz.tw2200396190622280691 : True := trivial
theorem zz.tw13625855049887711718 : True := trivial
theorem zz.tw5922798109819949140 : True := trivial
theorem zz.tw18086505771145053488 : True := trivial
theorem zz.tw4328264461632179392 : True := trivial
theorem zz.tw18249490459078268295 : True := trivial
theorem zz.tw13843497100673489069 : True := trivial
theorem zz.tw8304455478538168917 : True := trivial
theorem zz.tw10658149122955167628 : True := trivial
theorem zz.tw6506934442519081175 : True := trivial
theorem zz.tw7808729292349969683 : True := trivial
theorem zz.tw1464842859440865673 : True := trivial
theorem zz.tw15918639664550201194 : True := trivial
theorem zz.tw14332964404381356345 : True := trivial
theorem zz.tw708242913621656173 : True := trivial
theorem zz.tw10252011246421739492 : True := trivial
theorem zz.tw15956687618632498443 : True := trivial
theorem zz.tw15675652441418109011 : True := trivial
theorem zz.tw7105801472497961400 : True := trivial
theorem zz.tw5238273697137443015 : True := trivial
theorem zz.tw12093239063651366302 : True := trivial
theorem zz.tw13526598126920627111 : True := trivial
theorem zz.tw4993568989188313885 : True := trivial
theorem zz.tw8669252603316012041 : True := trivial
theorem zz.tw1681166527703288461 : True := trivial
theorem zz.tw16481151349384847683 : True := trivial
theorem zz.tw14831292214064350090 : True := trivial
theorem zz.tw16557062061961650845 : True := trivial
theorem zz.tw11633297429522116521 : True := trivial
theorem zz.tw6841086443307329193 : True := trivial
theorem zz.tw5726257642249291402 : True := trivial
theorem zz.tw2288200909478278530 : True := trivial
theorem zz.tw13921867624494013594 : True := trivial
theorem zz.tw7403968736116761164 : True := trivial
theorem zz.tw13242412566108766680 : True := trivial
theorem zz.tw12791423479572658239 : True := trivial
theorem zz.tw4944469249064306675 : True := trivial
theorem zz.tw16229460462299821833 : True := trivial
theorem zz.tw1825135030909719777 : True := trivial
theorem zz.tw961615969564647585 : True := trivial
theorem zz.tw5727940534430395487 : True := trivial
theorem zz.tw17551036180447508871 : True := trivial
theorem zz.tw11798069825789773029 : True := trivial
theorem zz.tw8974008459995983333 : True := trivial
theorem zz.tw8842806822617445358 : True := trivial
theorem zz.tw3592334634210586796 : True := trivial
theorem zz.tw1782470410677087537 : True := trivial
theorem zz.tw3241221316780535362 : True := trivial
theorem zz.tw14962938882074782249 : True := trivial
theorem zz.tw1251965239946902430 : True := trivial
theorem zz.tw17507979276091893172 : True := trivial
theorem zz.tw1352372075807839419 : True := trivial
theorem zz.tw11664933441330851445 : True := trivial
theorem zz.tw9734642956603916587 : True := trivial
theorem zz.tw17432669849429546855 : True := trivial
theorem zz.tw8156579085948792071 : True := trivial
theorem zz.tw10958397975137579482 : True := trivial
theorem zz.tw12706902533053118016 : True := trivial
theorem zz.tw6196417494631348011 : True := trivial
theorem zz.tw4164830415145613570 : True := trivial
theorem zz.tw12147154171507276821 : True := trivial
theorem zz.tw4807829393237119715 : True := trivial
theorem zz.tw7790599864133715003 : True := trivial
theorem zz.tw9255212760538484061 : True := trivial
theorem zz.tw12965027708694593727 : True := trivial
theorem zz.tw7654802660976472723 : True := trivial
theorem zz.tw6247340966703392361 : True := trivial
theorem zz.tw9468714922659454439 : True := trivial
theorem zz.tw2764668916863068354 : True := trivial
theorem zz.tw1491679636178271110 : True := trivial
theorem zz.tw1085928769847562378 : True := trivial
theorem zz.tw12200337329531996103 : True := trivial
theorem zz.tw16441989130166464081 : True := trivial
theorem zz.tw1041340966332819445 : True := trivial
theorem zz.tw11400909732512387548 : True := trivial
theorem zz.tw10436079423827288274 : True := trivial
theorem zz.tw4712052309540340054 : True := trivial
theorem zz.tw3972889200216021613 : True := trivial
theorem zz.tw14617507633453900482 : True := trivial
theorem zz.tw5993648844150430651 : True := trivial
theorem zz.tw4613820467436772375 : True := trivial
theorem zz.tw14359283182883114426 : True := trivial
theorem zz.tw5680581199117232541 : True := trivial
theorem zz.tw1256311142743769459 : True := trivial
theorem zz.tw15359077455362896777 : True := trivial
theorem zz.tw12621348200664096249 : True := trivial
theorem zz.tw3488297406165366579 : True := trivial
theorem zz.tw12144651808559171917 : True := trivial
theorem zz.tw1955708320921077658 : True := trivial
theorem zz.tw7730855734751109343 : True := trivial
theorem zz.tw9438622291127750784 : True := trivial
theorem zz.tw12320664578943331838 : True := trivial
theorem zz.tw3798848596891319335 : True := trivial
theorem zz.tw3255040134657608310 : True := trivial
theorem zz.tw13179603907518340946 : True := trivial
theorem zz.tw14681868459870844391 : True := trivial
theorem zz.tw13667951985343066889 : True := trivial
theorem zz.tw12223400299958665458 : True := trivial
theorem zz.tw9651394756163235522 : True := trivial
theorem zz.tw15467700819787589781 : True := trivial
theorem zz.tw9529773180140391141 : True := trivial
theorem zz.tw18047081245547825590 : True := trivial
theorem zz.tw8523275462621295795 : True := trivial
theorem zz.tw3070731194882861074 : True := trivial
theorem zz.tw8471708559133233243 : True := trivial
theorem zz.tw10104701264169989419 : True := trivial
theorem zz.tw17657975772129561212 : True := trivial
theorem zz.tw12779662714382031616 : True := trivial
set_option Elab.async true in
set_option maxHeartbeats 60000000 in
theorem zz : PySem.Challenge.rw_xm0725_01.Holds := by
  w_on
  o_law
  k_head
  (case hw => w_witness2)
  show WalkO Mine.kv.view_1 _ (XL Mine.kv.view_1 _) (kHook Mine.kv.heap_1 _ _).says _ _ _ _
  k_go0
  (all_goals try k_fold)
  k_with_none
  repeat' ((fail_if_success (with_reducible show wpAny _ _ (call (Value.ref 335) _) _ _ _)); (first | (k_unfold; (try dsimp only)) | (k_end; wrow_close) | walk1 | (dsimp only; walk1)))
  refine' tellA_use (t_ans _ _ _ _ _ _ _ _ _ _ _ _ _ _ _ _ _ _ _ _ _ _ _ _ ?hD ?hO _ ?hC) ?k1 ?k2 ?k3 ?k4 ?k5 ?kK ?kp ?kd ?ku ?kX ?kT ?_
  (case k1 => k_asm); (case k2 => k_asm); (case k3 => k_asm); (case k4 => k_asm); (case k5 => k_asm); (case kK => first | exact rfl | assumption)
  (case kp => walk_at "my pre")
  (case hD => assumption)
  (case hO => assumption)
  (case kd => ktr_room)
  (case ku => ktr_units)
  (case kX => assumption)
  (case kT => assumption)
  (case hC => refine' cor_first ?ga ?gb; (case ga => exact rfl); (case gb => exact rfl))
  intro r9 tl9 h9 tk9 F9 N9 hl9 ho9
  obtain ⟨all9, z9⟩ := split_news hl9
  clear hl9
  rw [← z9.1] at N9
  try dsimp only
  try k_fold
  repeat' ((fail_if_success (with_reducible show wpAny _ _ (compareOp .NotEq _ _) _ _ _)); (first | (k_unfold; (try dsimp only)) | (k_end; wrow_close) | walk1 | (dsimp only; walk1)))
  refine ne_dataH (Exists.choose_spec (ho9 _ _ _ _ (by k_asm) (by k_asm) (cb_drop (by k_asm) (drop_trans z9.2.1 (by walk_at "my keep"))))) (by ke_read) (ok_shaped _ _) (by ke_shaped) (by ke_room) ?_
  ke_norm
  clear ho9
  with_reducible rename News _ _ _ _ => NN
  replace NN := cb_drop (news := []) NN (fun _ h => nomatch h)
  try dsimp only
  try k_fold
  repeat' ((fail_if_success (with_reducible show wpAny _ _ (call (Value.ref 286) _) _ _ _)); (first | (k_unfold; (try dsimp only)) | (k_end; wrow_close) | walk1 | (dsimp only; walk1)))
  refine' tellS_use (t_pool _ _ _ _ _) ?k1 ?k2 ?k3 ?k4 ?k5 ?kK ?kq1 ?kq2 ?kq3 ?kd ?ku ?_
  walk_at "my use"
  (case kq1 => assumption); (case kq2 => assumption); (case kq3 => assumption)
  intro r9 tl9 h9 tk9 F9 N9 hl9 ho9
  obtain ⟨p9, x9, y9, tx9, ty9, e9, e9', hx9, hy9, hy9'⟩ := ho9
  subst e9
  subst e9'
  simp only [List.nil_append, List.cons_append] at N9
  replace hl9 := fun q hq => hl9 q hq _ (List.Mem.head _)
  try k_lt hl9
  try dsimp only
  try k_fold
  repeat' ((fail_if_success (with_reducible show wpAny _ _ (exec (Stmt.For _ _ _ [] _) _) _ _ _)); (first | (k_unfold; (try dsimp only)) | (k_end; wrow_close) | walk1 | (dsimp only; walk1)))
  with_reducible rename News _ _ _ _ => NN
  replace NN := cb_drop NN (fun p hp => List.mem_of_mem_take (i := 5) hp)
  simp only [List.take_succ_cons, List.take_zero] at NN
  refine for_cut NN ?_ ?_
  · skip
    repeat' ((fail_if_success (with_reducible show wpAny _ _ (pyIter _) _ _ _)); (first | (k_unfold; (try dsimp only)) | walk1 | (dsimp only; walk1)))
    have hm := pick_mem ‹_[_]? = some _›
    simp only [List.mem_cons, List.not_mem_nil, or_false] at hm
    with_reducible rename News _ _ _ _ => NN
    with_reducible rename Fr _ _ _ _ => FF
    obtain ⟨la, vs, nl, e, hv, NI⟩ := pick_list NN hm
    subst e
    obtain ⟨c0, c1, c2⟩ := apart_list NI hv (by with_reducible assumption) (by with_reducible assumption)
    refine' loop_names (LInv _ _ _ _ _ _ _ _ _ _ _ la (listOf vs.toArray nl)) ?hh FF NI (.head _) hv ?h0 ?turn ?done
    case hh => first | exact rfl | assumption
    case h0 => intro I hI; refine' linv0 ?e1 ?e2 ?e3 ?e4 ?x ?y ?z ?i ?j ?n0 ?n1 ?n2 hI; (case e1 => walk_at "my nm"); (case e2 => walk_at "my nm"); (case e3 => walk_at "my nm"); (case e4 => walk_at "my nm"); (case x => assumption); (case y => assumption); (case z => assumption); (case i => with_reducible assumption); (case j => with_reducible assumption); (case n0 => k_ne); (case n1 => k_ne); (case n2 => k_ne)
    case done => exact fun I m news1 hJ h tk F N => stop_intro ⟨rfl, _, _, rfl, after_linv hJ (by k_ne) (by k_ne) F N⟩
    intro I name t hn m news1 hJ it h tk F N
    obtain ⟨m', x, y, tx, ty, n, oT', oD', prsT, prsD, ox, oy, rest, rfl, rfl, hx, hy, hy', a0, a1, a2, a3, hD, bb, iT, iD, hKT, hKD, t1, t2, o1, o2, hn0⟩ := hJ
    obtain ⟨Wn, hN⟩ := nameOk_of hD hn (sz40 (by assumption) (by assumption)) (sz40 (by assumption) (by assumption))
    have dz := a1 _ hD
    have dz0 := a2 _ hD
    have dz1 := a3 _ hD
    dsimp only at dz dz0 dz1
    have lT := keys_len hKT iT
    have lD := keys_len hKD iD
    have b0 := bb.1
    have b1 := bb.2.1
    have b2 := bb.2.2.1
    have b3 := bb.2.2.2
    clear NN NI FF
    walk_at "my go"
    refine stop_out ?_
    refine' tellU_use (t_length _ _ _ _ _ _ _ _ _ _ _ _ _ _ _ _ _ _ Wn name _ hx ⟨hy, hy'⟩ hN.1 hN.2.1 rfl hN.2.2.1 (sz20 (by assumption) (by assumption))) ?k1 ?k2 ?k3 ?k4 ?k5 ?kK ?kU ?kp ?kd ?ku ?_
    walk_at "my use"
    (case kU => walk_at "my upd")
    (case kp => walk_at "my preU")
    intro r9 tl9 o9 h9 tk9 F9 N9 hl9 ho9
    obtain ⟨t9, f9, a9, b9, p9, q9, u9, u8, u7, u6, x9, y9, tx9, ty9, n9, hrow9, e9, e9', e9'', hx9, hy9, hy9'⟩ := ho9
    subst e9
    subst e9'
    subst e9''
    simp only [List.nil_append, List.cons_append] at N9
    have hl8 := fun q hq => hl9 q hq _ (List.Mem.head _)
    have hl7 := fun q hq => hl9 q hq _ (List.Mem.tail _ (List.Mem.head _))
    clear hl9
    try k_lt hl8
    try k_lt hl7
    try dsimp only
    try k_fold
    walk_at "my go"
    refine stop_out ?_
    refine' turn_end hN hrow9 ?zf_ ?zn_ ?zi_ ?zla_ ?zs_ ?zt_ ?zd_ ?zp_ ?zq_ ?zr_ ?ze1_ ?ze2_ ?ze3_ ?ze4_ ?zx_ ?zy_ ?zz_ a0 a1 a2 a3 hD bb ?ziT_ ?ziD_ hKT hKD t1 t2 o1 o2 ?zp0_ ?zp1_ ?zp2_ ?zp3_ ?zq0_ ?zq1_ ?zq2_ ?zq3_
    (case zf_ => k_asm); (case zn_ => k_asm); (case zi_ => k_mem); (case zla_ => k_mem); (case zs_ => k_mem); (case zt_ => k_mem); (case zd_ => k_mem); (case ziT_ => with_reducible assumption); (case ziD_ => with_reducible assumption); (case zp_ => k_mem); (case zq_ => k_mem); (case zr_ => walk_at "my keep")
    (case ze1_ => walk_at "my nm"); (case ze2_ => walk_at "my nm"); (case ze3_ => walk_at "my nm"); (case ze4_ => walk_at "my nm")
    (case zx_ => assumption); (case zy_ => assumption); (case zz_ => assumption)
    (case zp0_ => k_ne); (case zp1_ => k_ne); (case zp2_ => k_ne); (case zp3_ => k_ne); (case zq0_ => k_ne); (case zq1_ => k_ne); (case zq2_ => k_ne); (case zq3_ => k_ne)
  · skip
    intro hh tk ha
    obtain ⟨mm, x, y, tx, ty, n, oth, oT, oD, prsT, prsD, ox, oy, FF, N8, hx, hy, hne, ⟨mT, mD, mz⟩, iT, iD, ⟨t1, t2⟩, ⟨o1, o2⟩, hn⟩ := ha
    clear NN
    try dsimp only
    try k_fold
    walk_at "my go"
    refine stop_out ?_
    refine' tellA_use (t_answer _ _ _ _ _ _ _ _ _ _ _ _ _ _ _ _ _ _ _ _ _ _ _ _ _ _ iT ?hO ?hW ?hH ?hL1 ?sw ?sh t1 t2) ?k1 ?k2 ?k3 ?k4 ?k5 ?kK ?kp ?kd ?ku ?kX ?kT ?_
    walk_at "my use"
    (case kp => walk_at "my pre")
    (case hO => assumption)
    (case kX => assumption)
    (case kT => assumption)
    (case hW => exact sz40 (by assumption) (by assumption))
    (case hH => exact sz40 (by assumption) (by assumption))
    (case hL1 => exact sz20 (by assumption) (by assumption))
    (case sw => exact side_ok (by assumption) (by assumption) (by assumption) (by assumption))
    (case sh => exact side_ok (by assumption) (by assumption) (by assumption) (by assumption))
    intro r7 tl7 h7 tk7 F7 N7 hl7 ho7
    clear hl7
    try dsimp only
    try k_fold
    walk_at "my go"
    refine stop_out ?_
    refine' tellN_use (t_due _ _ _ _ _ _ _ _ _ _ _ _ _ oth _ _ _ _ _ _ _ _ _ _ iD ?hO mD ?hW ?hH ?hL1 ?sw ?sh t1 t2 o1 o2 hn) ?k1 ?k2 ?k3 ?k4 ?k5 ?kK ?kp ?kd ?ku ?_
    walk_at "my use"
    (case kp => exact fun q hq => List.mem_append_right _ ((List.forall_mem_cons.mpr ⟨by k_mem, List.forall_mem_cons.mpr ⟨by k_mem, by walk_at "my keep"⟩⟩) q hq))
    (case hO => assumption)
    (case hW => exact sz40 (by assumption) (by assumption))
    (case hH => exact sz40 (by assumption) (by assumption))
    (case hL1 => exact sz20 (by assumption) (by assumption))
    (case sw => exact side_ok (by assumption) (by assumption) (by assumption) (by assumption))
    (case sh => exact side_ok (by assumption) (by assumption) (by assumption) (by assumption))
    intro r6 tl6 h6 tk6 F6 N6 ho6
    try dsimp only
    try k_fold
    obtain ⟨a7, R7⟩ := ho7 _ _ _ _ F6 (by k_asm) (cb_drop N6 (fun p hp => List.mem_append_right _ (List.mem_append_left _ hp)))
    obtain ⟨a6, R6⟩ := ho6 _ _ _ _ F6 (by k_asm) (cb_drop N6 (fun p hp => List.mem_append_left _ hp))
    refine eq_dataH R7 R6 (due_shaped t1 t2) (due_shaped t1 t2) (by ke_room) ?_
    rw [SeqAt.eqv_refl _ (SeqAt.canLay_of_shaped (due_shaped t1 t2))]
    try dsimp only
    try k_fold
    k_steps
end Mine
theorem PySem.Challenge.cw_xm0725_01_holds : PySem.Challenge.rw_xm0725_01.Holds :=
  Mine.zz
