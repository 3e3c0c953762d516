import PyProof.Rows.All
import Wide.All
import OpenK.AllK
import Wide.FinOn
import Lean
import PySem.Challenge.RW_rh0222_01
open PySem PySem.W PySem.Spec PySem.Calls PyProof.Rows
set_option Elab.async false

namespace Mine
set_option maxRecDepth 100000
set_option maxHeartbeats 8000000
open_top hd for PySem.Challenge.rw_rh0222_01
end Mine

namespace Mine
set_option maxRecDepth 100000

/-- a call of the text's def at f: from the ledger news it comes back with a value and a ledger that post tells -/
def Does (w : World) (mean : ExcName → Option Value) (mg mb : Str → Option Value) (f : Addr) (need : Nat) (vs : List Value) (news : List (Addr × Obj)) (post : Value → List (Addr × Obj) → Prop) : Prop :=
  ∀ (dp un : Nat) (gd : Option (List Code)) (cn : Str) (cs : Scope) (a : Addr) (ccd : Value) (cl : List (Str × Addr)) (outer : List Env) (A₀ : Around) (base h₀ : Heap) (L : Addr) (m : Str → Option Value) (s : Shared) (Q E : Value → Shared → Prop),
    Below A₀ base outer h₀ → Fr h₀ L s.heap m → (hd.heap_39 w.params).In h₀ → News h₀ L s.heap news → Top hd.view_39 (looseW hd.view_39 []) mean mg mb h₀ → cs.kind = .function →
    dp + need < recursionLimit → un + 8 * need < cLine →
    (∀ r news' h' tk', Fr h₀ L h' m → News h₀ L h' news' → post r news' → Q r { s with heap := h', toks := tk' }) →
    wpAny (model PySem.Challenge.rw_rh0222_01.row.prog w) (ktrTop dp un gd cn cs L a ccd cl outer) (call (.ref f) vs) Q E s

abbrev feedO (c : Addr) (turn : Int) (tk : Tok) : Obj := W.listOf #[.ref c, .int turn tk] 0

local macro_rules | `(tactic| k_all) => `(tactic| assumption)
local macro_rules | `(tactic| is_list) => `(tactic| exact News.isList (by k_asm) (by k_mem))
local macro_rules | `(tactic| k_mem) => `(tactic| ((repeat (first | assumption | exact List.mem_cons_self | refine List.mem_cons_of_mem _ ?_)); done))
set_option maxHeartbeats 8000000 in
theorem next_ok (w : World) (mean : ExcName → Option Value) (mg mb : Str → Option Value) (fa c : Addr) (turn : Int) (tk t : Tok) (vs : List Value) (ns : List Int) (n : Nat) (rest : List (Addr × Obj)) (many : Int)
    (hc : (c, W.listOf vs.toArray n) ∈ rest) (hI : IntsAre vs ns) (hlen : ns.length < 64) (hoff : ∀ p ∈ rest, p.1 ≠ fa) (h0 : 0 ≤ turn) (h1 : turn < 1000000) (hm0 : 0 < many) (hm1 : many < 10) :
    Does w mean mg mb 35 3 [.ref fa, .int many t] ((fa, feedO c turn tk) :: rest) (fun r news' => ∃ (k : Int) (tk1 tk2 : Tok), 0 ≤ k ∧ k < many ∧ r = .int k tk1 ∧ news' = (fa, feedO c (turn + 1) tk2) :: rest) := by
  unfold Does
  w_top off
  k_fill
  intro dp un gd cn cs a ccd cl outer A₀ base h₀ L m s Q E B F X N T hk hroom hun hret
  w_strict (
    refine wpAny_call ?_
    k_dflt ktr_enter
    k_steps
    all_goals exact hret _ _ _ _ (by k_asm) (by k_asm) ⟨_, _, _, Int.fmod_nonneg_of_pos _ hm0, Int.fmod_lt_of_pos _ hm0, rfl, rfl⟩
    all_goals w_report)
end Mine

namespace Mine
set_option maxRecDepth 100000

theorem ite_sure {b : Bool} (h : b = false) : ¬ (b = true) := by rw [h]; exact Bool.false_ne_true
inductive UOp where
  | plain | dol | told | star
inductive BOp where
  | plain | told
def UOp.Is : UOp → Str → Prop
  | .plain, x => ([Str.ofString ".", Str.ofString "@"].any fun y => y == x) = false ∧ (x == Str.ofString "*") = false ∧ (x == Str.ofString "$") = false
  | .told, x => ([Str.ofString ".", Str.ofString "@"].any fun y => y == x) = true ∧ (x == Str.ofString "*") = false ∧ (x == Str.ofString "$") = false
  | .dol, x => x = Str.ofString "$"
  | .star, x => x = Str.ofString "*"
def BOp.Is : BOp → Str → Prop
  | .plain, x => ([Str.ofString ".", Str.ofString "$"].any fun y => y == x) = false
  | .told, x => ([Str.ofString ".", Str.ofString "$"].any fun y => y == x) = true
theorem u_plus : UOp.Is .plain (Str.ofString "+") := by unfold UOp.Is; decide +kernel
theorem u_minus : UOp.Is .plain (Str.ofString "-") := by unfold UOp.Is; decide +kernel
theorem u_quest : UOp.Is .plain (Str.ofString "?") := by unfold UOp.Is; decide +kernel
theorem u_tilde : UOp.Is .plain (Str.ofString "~") := by unfold UOp.Is; decide +kernel
theorem u_star : UOp.Is .star (Str.ofString "*") := rfl
theorem u_dol : UOp.Is .dol (Str.ofString "$") := rfl
theorem u_dot : UOp.Is .told (Str.ofString ".") := by unfold UOp.Is; decide +kernel
theorem u_at : UOp.Is .told (Str.ofString "@") := by unfold UOp.Is; decide +kernel
theorem b_plus : BOp.Is .plain (Str.ofString "+") := by unfold BOp.Is; decide +kernel
theorem b_bar : BOp.Is .plain (Str.ofString "|") := by unfold BOp.Is; decide +kernel
theorem b_pow : BOp.Is .plain (Str.ofString "**") := by unfold BOp.Is; decide +kernel
theorem b_hash : BOp.Is .plain (Str.ofString "#") := by unfold BOp.Is; decide +kernel
theorem b_dot : BOp.Is .told (Str.ofString ".") := by unfold BOp.Is; decide +kernel
theorem b_dol : BOp.Is .told (Str.ofString "$") := by unfold BOp.Is; decide +kernel
/-- a drawn tree, as far as its names are asked -/
inductive Tr where
  | name (x : Str) | text | whole | null | join (a b : Tr) | bin (o : BOp) (a b : Tr) | una (o : UOp) (a : Tr) | call0 | call1 (a : Tr) | call2 (a b : Tr) | item

def Tr.dep : Tr → Nat
  | .join a b => max a.dep b.dep + 1
  | .bin _ a b => max a.dep b.dep + 1
  | .una _ a => a.dep + 1
  | .call1 a => a.dep + 1
  | .call2 a b => max a.dep b.dep + 1
  | _ => 0

/-- the names asked of a tree, and those asked behind it -/
def Tr.both : Tr → List Str × List Str
  | .name x => ([x], [])
  | .join a b => (a.both.1 ++ b.both.1, [])
  | .bin .told a b => (a.both.1 ++ b.both.2, [])
  | .bin _ a b => (a.both.1 ++ b.both.1, [])
  | .una .told a => (a.both.2, [])
  | .una .star _ => ([], [])
  | .una .dol a => (a.both.1, a.both.1)
  | .una _ a => (a.both.1, [])
  | .call1 a => (a.both.1, [])
  | .call2 a b => (a.both.1 ++ b.both.1, [])
  | _ => ([], [])
def Tr.asked (t : Tr) : List Str := t.both.1
def Tr.behind (t : Tr) : List Str := t.both.2

theorem Tr.both_len : ∀ t : Tr, t.both.1.length ≤ 2 ^ t.dep ∧ t.both.2.length ≤ 2 ^ t.dep
  | .name x => by simp [Tr.both, Tr.dep]
  | .text => by simp [Tr.both, Tr.dep]
  | .whole => by simp [Tr.both, Tr.dep]
  | .null => by simp [Tr.both, Tr.dep]
  | .call0 => by simp [Tr.both, Tr.dep]
  | .item => by simp [Tr.both, Tr.dep]
  | .join a b => by
    have ha := both_len a; have hb := both_len b
    have h1 : 2 ^ a.dep ≤ 2 ^ max a.dep b.dep := Nat.pow_le_pow_right (by omega) (by omega)
    have h2 : 2 ^ b.dep ≤ 2 ^ max a.dep b.dep := Nat.pow_le_pow_right (by omega) (by omega)
    simp only [Tr.both, Tr.dep, List.length_append, List.length_nil, Nat.pow_succ]; omega
  | .call2 a b => by
    have ha := both_len a; have hb := both_len b
    have h1 : 2 ^ a.dep ≤ 2 ^ max a.dep b.dep := Nat.pow_le_pow_right (by omega) (by omega)
    have h2 : 2 ^ b.dep ≤ 2 ^ max a.dep b.dep := Nat.pow_le_pow_right (by omega) (by omega)
    simp only [Tr.both, Tr.dep, List.length_append, List.length_nil, Nat.pow_succ]; omega
  | .bin o a b => by
    have ha := both_len a; have hb := both_len b
    have h1 : 2 ^ a.dep ≤ 2 ^ max a.dep b.dep := Nat.pow_le_pow_right (by omega) (by omega)
    have h2 : 2 ^ b.dep ≤ 2 ^ max a.dep b.dep := Nat.pow_le_pow_right (by omega) (by omega)
    cases o <;> simp only [Tr.both, Tr.dep, List.length_append, List.length_nil, Nat.pow_succ] <;> omega
  | .una o a => by
    have ha := both_len a
    cases o <;> simp only [Tr.both, Tr.dep, List.length_nil, Nat.pow_succ] <;> omega
  | .call1 a => by
    have ha := both_len a
    simp only [Tr.both, Tr.dep, List.length_nil, Nat.pow_succ]; omega
theorem Tr.both_le {t : Tr} (h : t.dep ≤ 8) : t.both.1.length ≤ 256 ∧ t.both.2.length ≤ 256 := by
  have h1 := t.both_len
  have h2 : 2 ^ t.dep ≤ 2 ^ 8 := Nat.pow_le_pow_right (by omega) h
  omega

abbrev tupO (vs : List Value) : Obj := { cls := .type "tuple", data := .seq vs.toArray }
/-- the ledger bears the tree at q -/
inductive Rel (news : List (Addr × Obj)) : Addr → Tr → Prop where
  | name {q : Addr} {x : Str} {t1 t2 : Tok} : (q, tupO [.str (Str.ofString "name") t1, .str x t2]) ∈ news → Rel news q (.name x)
  | text {q : Addr} {x : Str} {t1 t2 : Tok} : (q, tupO [.str (Str.ofString "text") t1, .str x t2]) ∈ news → Rel news q .text
  | whole {q : Addr} {t1 t2 : Tok} : (q, tupO [.str (Str.ofString "whole") t1, .int 7 t2]) ∈ news → Rel news q .whole
  | null {q : Addr} {t1 : Tok} : (q, tupO [.str (Str.ofString "null") t1]) ∈ news → Rel news q .null
  | join {q u v : Addr} {t1 : Tok} {a b : Tr} : (q, tupO [.str (Str.ofString "join") t1, .ref u, .ref v]) ∈ news → Rel news u a → Rel news v b → Rel news q (.join a b)
  | bin {q u v : Addr} {t1 t2 : Tok} {x : Str} {o : BOp} {a b : Tr} : (q, tupO [.str (Str.ofString "binary") t1, .str x t2, .ref u, .ref v]) ∈ news → o.Is x → Rel news u a → Rel news v b → Rel news q (.bin o a b)
  | una {q u : Addr} {t1 t2 : Tok} {x : Str} {o : UOp} {a : Tr} : (q, tupO [.str (Str.ofString "unary") t1, .str x t2, .ref u]) ∈ news → o.Is x → Rel news u a → Rel news q (.una o a)
  | call0 {q p : Addr} {t1 t2 : Tok} : (q, tupO [.str (Str.ofString "call") t1, .str (Str.ofString "F") t2, .ref p]) ∈ news → (p, tupO []) ∈ news → Rel news q .call0
  | call1 {q p u : Addr} {t1 t2 : Tok} {a : Tr} : (q, tupO [.str (Str.ofString "call") t1, .str (Str.ofString "F") t2, .ref p]) ∈ news → (p, tupO [.ref u]) ∈ news → Rel news u a → Rel news q (.call1 a)
  | call2 {q p u v : Addr} {t1 t2 : Tok} {a b : Tr} : (q, tupO [.str (Str.ofString "call") t1, .str (Str.ofString "F") t2, .ref p]) ∈ news → (p, tupO [.ref u, .ref v]) ∈ news → Rel news u a → Rel news v b → Rel news q (.call2 a b)
  | item {q : Addr} {t1 : Tok} {v1 v2 : Value} : (q, tupO [.str (Str.ofString "item") t1, v1, v2]) ∈ news → Rel news q .item

theorem Rel.mono {news news' : List (Addr × Obj)} (hs : ∀ p ∈ news, p ∈ news') {q : Addr} {t : Tr} (h : Rel news q t) : Rel news' q t := by
  induction h with
  | name h => exact .name (hs _ h)
  | text h => exact .text (hs _ h)
  | whole h => exact .whole (hs _ h)
  | null h => exact .null (hs _ h)
  | join h _ _ i j => exact .join (hs _ h) i j
  | bin h x _ _ i j => exact .bin (hs _ h) x i j
  | una h x _ i => exact .una (hs _ h) x i
  | call0 h k => exact .call0 (hs _ h) (hs _ k)
  | call1 h k _ i => exact .call1 (hs _ h) (hs _ k) i
  | call2 h k _ _ i j => exact .call2 (hs _ h) (hs _ k) i j
  | item h => exact .item (hs _ h)
theorem Rel.tup {news : List (Addr × Obj)} {q : Addr} {t : Tr} (h : Rel news q t) : ∃ vs, (q, tupO vs) ∈ news := by
  cases h <;> exact ⟨_, by assumption⟩

/-- what was made lies above -/
def Ord (fa : Addr) (rest tl : List (Addr × Obj)) : Prop := ∀ p ∈ tl, @LT.lt Nat _ fa p.1 ∧ ∀ q ∈ rest, @LT.lt Nat _ q.1 p.1
theorem ltOf {d : Addr} : ∀ {l : List (Addr × Obj)}, AllLt d l → ∀ p ∈ l, @LT.lt Nat _ p.1 d
  | [], _, _, hp => (nomatch hp)
  | q :: r, h, p, hp => by
    rcases List.mem_cons.mp hp with rfl | hp
    · exact h.1
    · exact ltOf h.2 p hp
theorem Ord.nil {fa : Addr} {rest : List (Addr × Obj)} : Ord fa rest [] := fun _ h => nomatch h
theorem Ord.cons {fa D : Addr} {o : Obj} {rest R tl : List (Addr × Obj)} (h : @LT.lt Nat _ fa D) (hR : AllLt D R) (hs : ∀ p ∈ rest, p ∈ R) (O : Ord fa rest tl) : Ord fa rest ((D, o) :: tl) := fun p hp => by
  rcases List.mem_cons.mp hp with rfl | hp
  · exact ⟨h, fun q hq => ltOf hR q (hs q hq)⟩
  · exact O p hp
theorem Ord.app {fa : Addr} {rest tl tl' : List (Addr × Obj)} (O : Ord fa rest tl) (O' : Ord fa rest tl') : Ord fa rest (tl ++ tl') := fun p hp => (List.mem_append.mp hp).elim (O p) (O' p)
theorem Ord.sub {fa : Addr} {rest R tl : List (Addr × Obj)} (O : Ord fa R tl) (hs : ∀ p ∈ rest, p ∈ R) : Ord fa rest tl := fun p hp => ⟨(O p hp).1, fun q hq => (O p hp).2 q (hs q hq)⟩
theorem Ord.off {fa : Addr} {rest R tl : List (Addr × Obj)} (O : Ord fa R tl) (h : ∀ p ∈ rest, p.1 ≠ fa) : ∀ p ∈ tl ++ rest, p.1 ≠ fa := fun p hp => (List.mem_append.mp hp).elim (fun h => Nat.ne_of_gt (O p h).1) (h p)

/-- the contract of a def that draws a tree: f(feed, d) -/
def Draws (f : Addr) (d : Int) (need dep : Nat) (cost : Int) : Prop :=
  ∀ (w : World) (mean : ExcName → Option Value) (mg mb : Str → Option Value) (fa c : Addr) (turn : Int) (tk t : Tok) (vs : List Value) (ns : List Int) (n : Nat) (rest : List (Addr × Obj)),
    (c, W.listOf vs.toArray n) ∈ rest → IntsAre vs ns → ns.length < 64 → (∀ p ∈ rest, p.1 ≠ fa) → 0 ≤ turn → turn + cost < 900000 →
    Does w mean mg mb f need [.ref fa, .int d t] ((fa, feedO c turn tk) :: rest) (fun r news' => ∃ (q : Addr) (tr : Tr) (turn' : Int) (tk' : Tok) (tl : List (Addr × Obj)),
      r = .ref q ∧ Rel tl q tr ∧ tr.dep ≤ dep ∧ turn ≤ turn' ∧ turn' ≤ turn + cost ∧ Ord fa rest tl ∧ ∀ p ∈ (fa, feedO c turn' tk') :: (tl ++ rest), p ∈ news')

section
variable {w : World} {mean : ExcName → Option Value} {mg mb : Str → Option Value} {dp un : Nat} {gd : Option (List Code)} {cn : Str} {cs : Scope} {a : Addr} {ccd : Value} {cl : List (Str × Addr)} {outer : List Env} {A₀ : Around} {base h₀ : Heap} {L : Addr} {m : Str → Option Value} {s : Shared} {Q E : Value → Shared → Prop}
  {fa c : Addr} {turn : Int} {tk t : Tok} {vs : List Value} {ns : List Int} {n : Nat} {rest news : List (Addr × Obj)}

theorem use_next (many : Int) (B : Below A₀ base outer h₀) (F : Fr h₀ L s.heap m) (X : (hd.heap_39 w.params).In h₀) (N : News h₀ L s.heap news) (T : Top hd.view_39 (looseW hd.view_39 []) mean mg mb h₀) (hk : cs.kind = .function)
    (hs : ∀ p ∈ (fa, feedO c turn tk) :: rest, p ∈ news) (hc : (c, W.listOf vs.toArray n) ∈ rest) (hI : IntsAre vs ns) (hlen : ns.length < 64) (hoff : ∀ p ∈ rest, p.1 ≠ fa) (h0 : 0 ≤ turn) (h1 : turn < 1000000) (hm0 : 0 < many) (hm1 : many < 10)
    (hd : dp + 3 < recursionLimit) (hu : un + 8 * 3 < cLine)
    (ret : ∀ (k : Int) (tk1 tk2 : Tok) (h' : Heap) (tk' : Nat), 0 ≤ k → k < many → Fr h₀ L h' m → News h₀ L h' ((fa, feedO c (turn + 1) tk2) :: rest) → Q (.int k tk1) { s with heap := h', toks := tk' }) :
    wpAny (model PySem.Challenge.rw_rh0222_01.row.prog w) (ktrTop dp un gd cn cs L a ccd cl outer) (call (.ref 35) [.ref fa, .int many t]) Q E s :=
  next_ok w mean mg mb fa c turn tk t vs ns n rest many hc hI hlen hoff h0 h1 hm0 hm1 dp un gd cn cs a ccd cl outer A₀ base h₀ L m s Q E B F X (fun p hp => N p (hs p hp)) T hk hd hu
    (fun r news' h' tk' F' N' ⟨k, tk1, tk2, k0, k1, e1, e2⟩ => by subst e1; subst e2; exact ret k tk1 tk2 h' tk' k0 k1 F' N')

theorem use_next2 (B : Below A₀ base outer h₀) (F : Fr h₀ L s.heap m) (X : (hd.heap_39 w.params).In h₀) (N : News h₀ L s.heap news) (T : Top hd.view_39 (looseW hd.view_39 []) mean mg mb h₀) (hk : cs.kind = .function)
    (hs : ∀ p ∈ (fa, feedO c turn tk) :: rest, p ∈ news) (hc : (c, W.listOf vs.toArray n) ∈ rest) (hI : IntsAre vs ns) (hlen : ns.length < 64) (hoff : ∀ p ∈ rest, p.1 ≠ fa) (h0 : 0 ≤ turn) (h1 : turn < 1000000)
    (hd : dp + 3 < recursionLimit) (hu : un + 8 * 3 < cLine)
    (ret0 : ∀ (tk1 tk2 : Tok) (h' : Heap) (tk' : Nat), Fr h₀ L h' m → News h₀ L h' ((fa, feedO c (turn + 1) tk2) :: rest) → Q (.int 0 tk1) { s with heap := h', toks := tk' }) (ret1 : ∀ (tk1 tk2 : Tok) (h' : Heap) (tk' : Nat), Fr h₀ L h' m → News h₀ L h' ((fa, feedO c (turn + 1) tk2) :: rest) → Q (.int 1 tk1) { s with heap := h', toks := tk' }) :
    wpAny (model PySem.Challenge.rw_rh0222_01.row.prog w) (ktrTop dp un gd cn cs L a ccd cl outer) (call (.ref 35) [.ref fa, .int 2 t]) Q E s := by
  refine use_next 2 B F X N T hk hs hc hI hlen hoff h0 h1 (by decide) (by decide) hd hu fun k tk1 tk2 h' tk' k0 k1 F' N' => ?_
  obtain rfl | rfl : k = 0 ∨ k = 1 := by omega
  · exact ret0 tk1 tk2 h' tk' F' N'
  · exact ret1 tk1 tk2 h' tk' F' N'
theorem use_next3 (B : Below A₀ base outer h₀) (F : Fr h₀ L s.heap m) (X : (hd.heap_39 w.params).In h₀) (N : News h₀ L s.heap news) (T : Top hd.view_39 (looseW hd.view_39 []) mean mg mb h₀) (hk : cs.kind = .function)
    (hs : ∀ p ∈ (fa, feedO c turn tk) :: rest, p ∈ news) (hc : (c, W.listOf vs.toArray n) ∈ rest) (hI : IntsAre vs ns) (hlen : ns.length < 64) (hoff : ∀ p ∈ rest, p.1 ≠ fa) (h0 : 0 ≤ turn) (h1 : turn < 1000000)
    (hd : dp + 3 < recursionLimit) (hu : un + 8 * 3 < cLine)
    (ret0 : ∀ (tk1 tk2 : Tok) (h' : Heap) (tk' : Nat), Fr h₀ L h' m → News h₀ L h' ((fa, feedO c (turn + 1) tk2) :: rest) → Q (.int 0 tk1) { s with heap := h', toks := tk' }) (ret1 : ∀ (tk1 tk2 : Tok) (h' : Heap) (tk' : Nat), Fr h₀ L h' m → News h₀ L h' ((fa, feedO c (turn + 1) tk2) :: rest) → Q (.int 1 tk1) { s with heap := h', toks := tk' }) (ret2 : ∀ (tk1 tk2 : Tok) (h' : Heap) (tk' : Nat), Fr h₀ L h' m → News h₀ L h' ((fa, feedO c (turn + 1) tk2) :: rest) → Q (.int 2 tk1) { s with heap := h', toks := tk' }) :
    wpAny (model PySem.Challenge.rw_rh0222_01.row.prog w) (ktrTop dp un gd cn cs L a ccd cl outer) (call (.ref 35) [.ref fa, .int 3 t]) Q E s := by
  refine use_next 3 B F X N T hk hs hc hI hlen hoff h0 h1 (by decide) (by decide) hd hu fun k tk1 tk2 h' tk' k0 k1 F' N' => ?_
  obtain rfl | rfl | rfl : k = 0 ∨ k = 1 ∨ k = 2 := by omega
  · exact ret0 tk1 tk2 h' tk' F' N'
  · exact ret1 tk1 tk2 h' tk' F' N'
  · exact ret2 tk1 tk2 h' tk' F' N'
theorem use_next4 (B : Below A₀ base outer h₀) (F : Fr h₀ L s.heap m) (X : (hd.heap_39 w.params).In h₀) (N : News h₀ L s.heap news) (T : Top hd.view_39 (looseW hd.view_39 []) mean mg mb h₀) (hk : cs.kind = .function)
    (hs : ∀ p ∈ (fa, feedO c turn tk) :: rest, p ∈ news) (hc : (c, W.listOf vs.toArray n) ∈ rest) (hI : IntsAre vs ns) (hlen : ns.length < 64) (hoff : ∀ p ∈ rest, p.1 ≠ fa) (h0 : 0 ≤ turn) (h1 : turn < 1000000)
    (hd : dp + 3 < recursionLimit) (hu : un + 8 * 3 < cLine)
    (ret0 : ∀ (tk1 tk2 : Tok) (h' : Heap) (tk' : Nat), Fr h₀ L h' m → News h₀ L h' ((fa, feedO c (turn + 1) tk2) :: rest) → Q (.int 0 tk1) { s with heap := h', toks := tk' }) (ret1 : ∀ (tk1 tk2 : Tok) (h' : Heap) (tk' : Nat), Fr h₀ L h' m → News h₀ L h' ((fa, feedO c (turn + 1) tk2) :: rest) → Q (.int 1 tk1) { s with heap := h', toks := tk' }) (ret2 : ∀ (tk1 tk2 : Tok) (h' : Heap) (tk' : Nat), Fr h₀ L h' m → News h₀ L h' ((fa, feedO c (turn + 1) tk2) :: rest) → Q (.int 2 tk1) { s with heap := h', toks := tk' }) (ret3 : ∀ (tk1 tk2 : Tok) (h' : Heap) (tk' : Nat), Fr h₀ L h' m → News h₀ L h' ((fa, feedO c (turn + 1) tk2) :: rest) → Q (.int 3 tk1) { s with heap := h', toks := tk' }) :
    wpAny (model PySem.Challenge.rw_rh0222_01.row.prog w) (ktrTop dp un gd cn cs L a ccd cl outer) (call (.ref 35) [.ref fa, .int 4 t]) Q E s := by
  refine use_next 4 B F X N T hk hs hc hI hlen hoff h0 h1 (by decide) (by decide) hd hu fun k tk1 tk2 h' tk' k0 k1 F' N' => ?_
  obtain rfl | rfl | rfl | rfl : k = 0 ∨ k = 1 ∨ k = 2 ∨ k = 3 := by omega
  · exact ret0 tk1 tk2 h' tk' F' N'
  · exact ret1 tk1 tk2 h' tk' F' N'
  · exact ret2 tk1 tk2 h' tk' F' N'
  · exact ret3 tk1 tk2 h' tk' F' N'
theorem use_next6 (B : Below A₀ base outer h₀) (F : Fr h₀ L s.heap m) (X : (hd.heap_39 w.params).In h₀) (N : News h₀ L s.heap news) (T : Top hd.view_39 (looseW hd.view_39 []) mean mg mb h₀) (hk : cs.kind = .function)
    (hs : ∀ p ∈ (fa, feedO c turn tk) :: rest, p ∈ news) (hc : (c, W.listOf vs.toArray n) ∈ rest) (hI : IntsAre vs ns) (hlen : ns.length < 64) (hoff : ∀ p ∈ rest, p.1 ≠ fa) (h0 : 0 ≤ turn) (h1 : turn < 1000000)
    (hd : dp + 3 < recursionLimit) (hu : un + 8 * 3 < cLine)
    (ret0 : ∀ (tk1 tk2 : Tok) (h' : Heap) (tk' : Nat), Fr h₀ L h' m → News h₀ L h' ((fa, feedO c (turn + 1) tk2) :: rest) → Q (.int 0 tk1) { s with heap := h', toks := tk' }) (ret1 : ∀ (tk1 tk2 : Tok) (h' : Heap) (tk' : Nat), Fr h₀ L h' m → News h₀ L h' ((fa, feedO c (turn + 1) tk2) :: rest) → Q (.int 1 tk1) { s with heap := h', toks := tk' }) (ret2 : ∀ (tk1 tk2 : Tok) (h' : Heap) (tk' : Nat), Fr h₀ L h' m → News h₀ L h' ((fa, feedO c (turn + 1) tk2) :: rest) → Q (.int 2 tk1) { s with heap := h', toks := tk' }) (ret3 : ∀ (tk1 tk2 : Tok) (h' : Heap) (tk' : Nat), Fr h₀ L h' m → News h₀ L h' ((fa, feedO c (turn + 1) tk2) :: rest) → Q (.int 3 tk1) { s with heap := h', toks := tk' }) (ret4 : ∀ (tk1 tk2 : Tok) (h' : Heap) (tk' : Nat), Fr h₀ L h' m → News h₀ L h' ((fa, feedO c (turn + 1) tk2) :: rest) → Q (.int 4 tk1) { s with heap := h', toks := tk' }) (ret5 : ∀ (tk1 tk2 : Tok) (h' : Heap) (tk' : Nat), Fr h₀ L h' m → News h₀ L h' ((fa, feedO c (turn + 1) tk2) :: rest) → Q (.int 5 tk1) { s with heap := h', toks := tk' }) :
    wpAny (model PySem.Challenge.rw_rh0222_01.row.prog w) (ktrTop dp un gd cn cs L a ccd cl outer) (call (.ref 35) [.ref fa, .int 6 t]) Q E s := by
  refine use_next 6 B F X N T hk hs hc hI hlen hoff h0 h1 (by decide) (by decide) hd hu fun k tk1 tk2 h' tk' k0 k1 F' N' => ?_
  obtain rfl | rfl | rfl | rfl | rfl | rfl : k = 0 ∨ k = 1 ∨ k = 2 ∨ k = 3 ∨ k = 4 ∨ k = 5 := by omega
  · exact ret0 tk1 tk2 h' tk' F' N'
  · exact ret1 tk1 tk2 h' tk' F' N'
  · exact ret2 tk1 tk2 h' tk' F' N'
  · exact ret3 tk1 tk2 h' tk' F' N'
  · exact ret4 tk1 tk2 h' tk' F' N'
  · exact ret5 tk1 tk2 h' tk' F' N'
theorem use_next9 (B : Below A₀ base outer h₀) (F : Fr h₀ L s.heap m) (X : (hd.heap_39 w.params).In h₀) (N : News h₀ L s.heap news) (T : Top hd.view_39 (looseW hd.view_39 []) mean mg mb h₀) (hk : cs.kind = .function)
    (hs : ∀ p ∈ (fa, feedO c turn tk) :: rest, p ∈ news) (hc : (c, W.listOf vs.toArray n) ∈ rest) (hI : IntsAre vs ns) (hlen : ns.length < 64) (hoff : ∀ p ∈ rest, p.1 ≠ fa) (h0 : 0 ≤ turn) (h1 : turn < 1000000)
    (hd : dp + 3 < recursionLimit) (hu : un + 8 * 3 < cLine)
    (ret0 : ∀ (tk1 tk2 : Tok) (h' : Heap) (tk' : Nat), Fr h₀ L h' m → News h₀ L h' ((fa, feedO c (turn + 1) tk2) :: rest) → Q (.int 0 tk1) { s with heap := h', toks := tk' }) (ret1 : ∀ (tk1 tk2 : Tok) (h' : Heap) (tk' : Nat), Fr h₀ L h' m → News h₀ L h' ((fa, feedO c (turn + 1) tk2) :: rest) → Q (.int 1 tk1) { s with heap := h', toks := tk' }) (ret2 : ∀ (tk1 tk2 : Tok) (h' : Heap) (tk' : Nat), Fr h₀ L h' m → News h₀ L h' ((fa, feedO c (turn + 1) tk2) :: rest) → Q (.int 2 tk1) { s with heap := h', toks := tk' }) (ret3 : ∀ (tk1 tk2 : Tok) (h' : Heap) (tk' : Nat), Fr h₀ L h' m → News h₀ L h' ((fa, feedO c (turn + 1) tk2) :: rest) → Q (.int 3 tk1) { s with heap := h', toks := tk' }) (ret4 : ∀ (tk1 tk2 : Tok) (h' : Heap) (tk' : Nat), Fr h₀ L h' m → News h₀ L h' ((fa, feedO c (turn + 1) tk2) :: rest) → Q (.int 4 tk1) { s with heap := h', toks := tk' }) (ret5 : ∀ (tk1 tk2 : Tok) (h' : Heap) (tk' : Nat), Fr h₀ L h' m → News h₀ L h' ((fa, feedO c (turn + 1) tk2) :: rest) → Q (.int 5 tk1) { s with heap := h', toks := tk' }) (ret6 : ∀ (tk1 tk2 : Tok) (h' : Heap) (tk' : Nat), Fr h₀ L h' m → News h₀ L h' ((fa, feedO c (turn + 1) tk2) :: rest) → Q (.int 6 tk1) { s with heap := h', toks := tk' }) (ret7 : ∀ (tk1 tk2 : Tok) (h' : Heap) (tk' : Nat), Fr h₀ L h' m → News h₀ L h' ((fa, feedO c (turn + 1) tk2) :: rest) → Q (.int 7 tk1) { s with heap := h', toks := tk' }) (ret8 : ∀ (tk1 tk2 : Tok) (h' : Heap) (tk' : Nat), Fr h₀ L h' m → News h₀ L h' ((fa, feedO c (turn + 1) tk2) :: rest) → Q (.int 8 tk1) { s with heap := h', toks := tk' }) :
    wpAny (model PySem.Challenge.rw_rh0222_01.row.prog w) (ktrTop dp un gd cn cs L a ccd cl outer) (call (.ref 35) [.ref fa, .int 9 t]) Q E s := by
  refine use_next 9 B F X N T hk hs hc hI hlen hoff h0 h1 (by decide) (by decide) hd hu fun k tk1 tk2 h' tk' k0 k1 F' N' => ?_
  obtain rfl | rfl | rfl | rfl | rfl | rfl | rfl | rfl | rfl : k = 0 ∨ k = 1 ∨ k = 2 ∨ k = 3 ∨ k = 4 ∨ k = 5 ∨ k = 6 ∨ k = 7 ∨ k = 8 := by omega
  · exact ret0 tk1 tk2 h' tk' F' N'
  · exact ret1 tk1 tk2 h' tk' F' N'
  · exact ret2 tk1 tk2 h' tk' F' N'
  · exact ret3 tk1 tk2 h' tk' F' N'
  · exact ret4 tk1 tk2 h' tk' F' N'
  · exact ret5 tk1 tk2 h' tk' F' N'
  · exact ret6 tk1 tk2 h' tk' F' N'
  · exact ret7 tk1 tk2 h' tk' F' N'
  · exact ret8 tk1 tk2 h' tk' F' N'
theorem sub2 {f x : Addr × Obj} {R : List (Addr × Obj)} : ∀ p ∈ f :: x :: R, p ∈ x :: f :: R := fun p h => by simp only [List.mem_cons] at h ⊢; exact or_left_comm.mp h
theorem sub3 {f x y : Addr × Obj} {R : List (Addr × Obj)} : ∀ p ∈ f :: x :: y :: R, p ∈ x :: y :: f :: R := fun p h => by
  simp only [List.mem_cons] at h ⊢
  rcases h with h | h | h | h <;> simp only [h, true_or, or_true]
theorem sub4 {f x y z : Addr × Obj} {R : List (Addr × Obj)} : ∀ p ∈ f :: x :: y :: z :: R, p ∈ x :: y :: z :: f :: R := fun p h => by
  simp only [List.mem_cons] at h ⊢
  rcases h with h | h | h | h | h <;> simp only [h, true_or, or_true]
theorem sub5 {f x y z u : Addr × Obj} {R : List (Addr × Obj)} : ∀ p ∈ f :: x :: y :: z :: u :: R, p ∈ x :: y :: z :: u :: f :: R := fun p h => by
  simp only [List.mem_cons] at h ⊢
  rcases h with h | h | h | h | h | h <;> simp only [h, true_or, or_true]
theorem sub6 {f x y z u v : Addr × Obj} {R : List (Addr × Obj)} : ∀ p ∈ f :: x :: y :: z :: u :: v :: R, p ∈ x :: y :: z :: u :: v :: f :: R := fun p h => by
  simp only [List.mem_cons] at h ⊢
  rcases h with h | h | h | h | h | h | h <;> simp only [h, true_or, or_true]

theorem use_draw {f : Addr} {d e : Int} {need dep : Nat} {cost : Int} (C : Draws f d need dep cost) (B : Below A₀ base outer h₀) (F : Fr h₀ L s.heap m) (X : (hd.heap_39 w.params).In h₀) (N : News h₀ L s.heap news) (T : Top hd.view_39 (looseW hd.view_39 []) mean mg mb h₀) (hk : cs.kind = .function) (he : e = d)
    (hs : ∀ p ∈ (fa, feedO c turn tk) :: rest, p ∈ news) (hc : (c, W.listOf vs.toArray n) ∈ rest) (hI : IntsAre vs ns) (hlen : ns.length < 64) (hoff : ∀ p ∈ rest, p.1 ≠ fa) (h0 : 0 ≤ turn) (h1 : turn + cost < 900000)
    (hd : dp + need < recursionLimit) (hu : un + 8 * need < cLine)
    (ret : ∀ (q : Addr) (tr : Tr) (turn' : Int) (tk2 : Tok) (tl rest' : List (Addr × Obj)) (h' : Heap) (tk' : Nat), Rel tl q tr → tr.dep ≤ dep → turn ≤ turn' → turn' ≤ turn + cost → Ord fa rest tl → (∀ p ∈ tl, p ∈ rest') → (∀ p ∈ rest, p ∈ rest') → (∀ p ∈ rest', p.1 ≠ fa) →
      Fr h₀ L h' m → News h₀ L h' ((fa, feedO c turn' tk2) :: rest') → Q (.ref q) { s with heap := h', toks := tk' }) :
    wpAny (model PySem.Challenge.rw_rh0222_01.row.prog w) (ktrTop dp un gd cn cs L a ccd cl outer) (call (.ref f) [.ref fa, .int e t]) Q E s := by
  subst he
  exact C w mean mg mb fa c turn tk t vs ns n rest hc hI hlen hoff h0 h1 dp un gd cn cs a ccd cl outer A₀ base h₀ L m s Q E B F X (fun p hp => N p (hs p hp)) T hk hd hu
    (fun r news' h' tk' F' N' ⟨q, tr, turn', tk2, tl, e1, R, dd, t0, t1, O, sub⟩ => by
      subst e1
      exact ret q tr turn' tk2 tl (tl ++ rest) h' tk' R dd t0 t1 O (fun p hp => List.mem_append.mpr (.inl hp)) (fun p hp => List.mem_append.mpr (.inr hp)) (O.off hoff) F' (fun p hp => N' p (sub p hp)))

theorem use_drawC {f : Addr} {d e : Int} {need dep : Nat} {cost : Int} {I C D : Addr} {oI oC oD : Obj} (Dr : Draws f d need dep cost) (B : Below A₀ base outer h₀) (F : Fr h₀ L s.heap m) (X : (hd.heap_39 w.params).In h₀)
    (N : News h₀ L s.heap ((I, oI) :: (C, oC) :: (D, oD) :: (fa, feedO c turn tk) :: rest)) (off : LCg.Off3 I C D ((fa, feedO c turn tk) :: rest)) (T : Top hd.view_39 (looseW hd.view_39 []) mean mg mb h₀) (hk : cs.kind = .function) (he : e = d)
    (hc : (c, W.listOf vs.toArray n) ∈ rest) (hI : IntsAre vs ns) (hlen : ns.length < 64) (hoff : ∀ p ∈ rest, p.1 ≠ fa) (h0 : 0 ≤ turn) (h1 : turn + cost < 900000)
    (hd : dp + need < recursionLimit) (hu : un + 8 * need < cLine)
    (ret : ∀ (q : Addr) (tr : Tr) (turn' : Int) (tk2 : Tok) (tl rest' : List (Addr × Obj)) (h' : Heap) (tk' : Nat), Rel tl q tr → tr.dep ≤ dep → turn ≤ turn' → turn' ≤ turn + cost → Ord fa rest tl → (∀ p ∈ tl, p ∈ rest') → (∀ p ∈ rest, p ∈ rest') → (∀ p ∈ rest', p.1 ≠ fa) →
      LCg.Off3 I C D ((fa, feedO c turn' tk2) :: rest') → Fr h₀ L h' m → News h₀ L h' ((I, oI) :: (C, oC) :: (D, oD) :: (fa, feedO c turn' tk2) :: rest') → Q (.ref q) { s with heap := h', toks := tk' }) :
    wpAny (model PySem.Challenge.rw_rh0222_01.row.prog w) (ktrTop dp un gd cn cs L a ccd cl outer) (call (.ref f) [.ref fa, .int e t]) Q E s := by
  subst he
  refine Dr w mean mg mb fa c turn tk t vs ns n ((I, oI) :: (C, oC) :: (D, oD) :: rest) (List.mem_cons_of_mem _ (List.mem_cons_of_mem _ (List.mem_cons_of_mem _ hc))) hI hlen ?_ h0 h1 dp un gd cn cs a ccd cl outer A₀ base h₀ L m s Q E B F X (fun p hp => N p (sub4 p hp)) T hk hd hu
    (fun r news' h' tk' F' N' ⟨q, tr, turn', tk2, tl, e1, R, dd, t0, t1, O, sub⟩ => ?_)
  · intro p hp
    have o := off.1
    rcases List.mem_cons.mp hp with rfl | hp
    · exact Ne.symm o.1
    rcases List.mem_cons.mp hp with rfl | hp
    · exact Ne.symm o.2.1
    rcases List.mem_cons.mp hp with rfl | hp
    · exact Ne.symm o.2.2
    · exact hoff p hp
  · subst e1
    have O' : Ord fa rest tl := O.sub fun p hp => List.mem_cons_of_mem _ (List.mem_cons_of_mem _ (List.mem_cons_of_mem _ hp))
    refine ret q tr turn' tk2 tl (tl ++ rest) h' tk' R dd t0 t1 O' (fun p hp => List.mem_append.mpr (.inl hp)) (fun p hp => List.mem_append.mpr (.inr hp)) (O'.off hoff) ⟨off.1, LCg.Off3.of fun p hp => ?_⟩ F' fun p hp => N' p (sub p ?_)
    · rcases List.mem_append.mp hp with hp | hp
      · have h := (O p hp).2
        exact ⟨Nat.ne_of_gt (h (I, oI) (.head _)), Nat.ne_of_gt (h (C, oC) (.tail _ (.head _))), Nat.ne_of_gt (h (D, oD) (.tail _ (.tail _ (.head _))))⟩
      · exact LCg.Off3.mem off.2 p hp
    · simp only [List.mem_cons, List.mem_append] at hp ⊢
      rcases hp with h | h | h | h | h | h <;> simp only [h, true_or, or_true]

theorem draw_end {dep : Nat} {cost : Int} {turn' : Int} {tk' : Tok} {tl news' : List (Addr × Obj)} {q : Addr} {tr : Tr} {h' : Heap} {tks : Nat}
    (hret : ∀ (r : Value) (news' : List (Addr × Obj)) (h' : Heap) (tk' : Nat), Fr h₀ L h' m → News h₀ L h' news' → (∃ (q : Addr) (tr : Tr) (turn' : Int) (tk' : Tok) (tl : List (Addr × Obj)),
      r = .ref q ∧ Rel tl q tr ∧ tr.dep ≤ dep ∧ turn ≤ turn' ∧ turn' ≤ turn + cost ∧ Ord fa rest tl ∧ ∀ p ∈ (fa, feedO c turn' tk') :: (tl ++ rest), p ∈ news') → Q r { s with heap := h', toks := tk' })
    (F : Fr h₀ L h' m) (N : News h₀ L h' news') (hf : (fa, feedO c turn' tk') ∈ news') (R : Rel tl q tr) (dd : tr.dep ≤ dep) (t0 : turn ≤ turn') (t1 : turn' ≤ turn + cost) (O : Ord fa rest tl) (hs1 : ∀ p ∈ tl, p ∈ news') (hs2 : ∀ p ∈ rest, p ∈ news') :
    Q (.ref q) { s with heap := h', toks := tks } := hret _ _ _ _ F N ⟨q, tr, turn', tk', tl, rfl, R, dd, t0, t1, O, fun p hp => by
      rcases List.mem_cons.mp hp with rfl | hp
      · exact hf
      · exact (List.mem_append.mp hp).elim (hs1 p) (hs2 p)⟩
theorem sub_nil {R : List (Addr × Obj)} : ∀ p ∈ ([] : List (Addr × Obj)), p ∈ R := fun _ h => nomatch h
theorem sub_cons {x : Addr × Obj} {l R : List (Addr × Obj)} (h : x ∈ R) (k : ∀ p ∈ l, p ∈ R) : ∀ p ∈ x :: l, p ∈ R := fun p hp => by
  rcases List.mem_cons.mp hp with rfl | hp
  · exact h
  · exact k p hp
theorem sub_app {l l' R : List (Addr × Obj)} (h : ∀ p ∈ l, p ∈ R) (k : ∀ p ∈ l', p ∈ R) : ∀ p ∈ l ++ l', p ∈ R := fun p hp => (List.mem_append.mp hp).elim (h p) (k p)

theorem end_leaf {dep : Nat} {cost : Int} {turn' : Int} {tk' : Tok} {news' Rq : List (Addr × Obj)} {q : Addr} {o : Obj} {tr : Tr} {h' : Heap} {tks : Nat}
    (hret : ∀ (r : Value) (news' : List (Addr × Obj)) (h' : Heap) (tk' : Nat), Fr h₀ L h' m → News h₀ L h' news' → (∃ (q : Addr) (tr : Tr) (turn' : Int) (tk' : Tok) (tl : List (Addr × Obj)),
      r = .ref q ∧ Rel tl q tr ∧ tr.dep ≤ dep ∧ turn ≤ turn' ∧ turn' ≤ turn + cost ∧ Ord fa rest tl ∧ ∀ p ∈ (fa, feedO c turn' tk') :: (tl ++ rest), p ∈ news') → Q r { s with heap := h', toks := tk' })
    (F : Fr h₀ L h' m) (N : News h₀ L h' news') (hq : (q, o) ∈ news') (hf : (fa, feedO c turn' tk') ∈ news') (R : ∀ l, (q, o) ∈ l → Rel l q tr) (dd : tr.dep ≤ dep) (t0 : turn ≤ turn') (t1 : turn' ≤ turn + cost)
    (lq : @LT.lt Nat _ fa q) (aq : AllLt q Rq) (sq : ∀ x ∈ rest, x ∈ Rq) (hs2 : ∀ x ∈ rest, x ∈ news') : Q (.ref q) { s with heap := h', toks := tks } :=
  draw_end (tl := [(q, o)]) hret F N hf (R _ List.mem_cons_self) dd t0 t1 (Ord.cons lq aq sq Ord.nil) (sub_cons hq sub_nil) hs2

theorem end_one {dep : Nat} {cost : Int} {turn' : Int} {tk' : Tok} {news' Rq RA TA A : List (Addr × Obj)} {q u : Addr} {o : Obj} {tr a : Tr} {h' : Heap} {tks : Nat}
    (hret : ∀ (r : Value) (news' : List (Addr × Obj)) (h' : Heap) (tk' : Nat), Fr h₀ L h' m → News h₀ L h' news' → (∃ (q : Addr) (tr : Tr) (turn' : Int) (tk' : Tok) (tl : List (Addr × Obj)),
      r = .ref q ∧ Rel tl q tr ∧ tr.dep ≤ dep ∧ turn ≤ turn' ∧ turn' ≤ turn + cost ∧ Ord fa rest tl ∧ ∀ p ∈ (fa, feedO c turn' tk') :: (tl ++ rest), p ∈ news') → Q r { s with heap := h', toks := tk' })
    (F : Fr h₀ L h' m) (N : News h₀ L h' news') (hq : (q, o) ∈ news') (hf : (fa, feedO c turn' tk') ∈ news') (R : ∀ l, (q, o) ∈ l → Rel l u a → Rel l q tr) (hA : Rel A u a) (OA : Ord fa RA A) (sA : ∀ x ∈ rest, x ∈ RA) (mA : ∀ x ∈ A, x ∈ TA) (nA : ∀ x ∈ TA, x ∈ news') (dd : tr.dep ≤ dep) (t0 : turn ≤ turn') (t1 : turn' ≤ turn + cost)
    (lq : @LT.lt Nat _ fa q) (aq : AllLt q Rq) (sq : ∀ x ∈ rest, x ∈ Rq) (hs2 : ∀ x ∈ rest, x ∈ news') : Q (.ref q) { s with heap := h', toks := tks } :=
  draw_end (tl := (q, o) :: A) hret F N hf (R _ List.mem_cons_self (hA.mono fun _ h => List.mem_cons_of_mem _ h)) dd t0 t1 (Ord.cons lq aq sq (OA.sub sA)) (sub_cons hq (fun x h => nA x (mA x h))) hs2

theorem end_two {dep : Nat} {cost : Int} {turn' : Int} {tk' : Tok} {news' Rq RA TA A RB TB B : List (Addr × Obj)} {q u v : Addr} {o : Obj} {tr a b : Tr} {h' : Heap} {tks : Nat}
    (hret : ∀ (r : Value) (news' : List (Addr × Obj)) (h' : Heap) (tk' : Nat), Fr h₀ L h' m → News h₀ L h' news' → (∃ (q : Addr) (tr : Tr) (turn' : Int) (tk' : Tok) (tl : List (Addr × Obj)),
      r = .ref q ∧ Rel tl q tr ∧ tr.dep ≤ dep ∧ turn ≤ turn' ∧ turn' ≤ turn + cost ∧ Ord fa rest tl ∧ ∀ p ∈ (fa, feedO c turn' tk') :: (tl ++ rest), p ∈ news') → Q r { s with heap := h', toks := tk' })
    (F : Fr h₀ L h' m) (N : News h₀ L h' news') (hq : (q, o) ∈ news') (hf : (fa, feedO c turn' tk') ∈ news') (R : ∀ l, (q, o) ∈ l → Rel l u a → Rel l v b → Rel l q tr) (hA : Rel A u a) (OA : Ord fa RA A) (sA : ∀ x ∈ rest, x ∈ RA) (mA : ∀ x ∈ A, x ∈ TA) (nA : ∀ x ∈ TA, x ∈ news') (hB : Rel B v b) (OB : Ord fa RB B) (sB : ∀ x ∈ rest, x ∈ RB) (mB : ∀ x ∈ B, x ∈ TB) (nB : ∀ x ∈ TB, x ∈ news') (dd : tr.dep ≤ dep) (t0 : turn ≤ turn') (t1 : turn' ≤ turn + cost)
    (lq : @LT.lt Nat _ fa q) (aq : AllLt q Rq) (sq : ∀ x ∈ rest, x ∈ Rq) (hs2 : ∀ x ∈ rest, x ∈ news') : Q (.ref q) { s with heap := h', toks := tks } :=
  draw_end (tl := (q, o) :: (A ++ B)) hret F N hf (R _ List.mem_cons_self (hA.mono fun _ h => List.mem_cons_of_mem _ (List.mem_append_left _ h)) (hB.mono fun _ h => List.mem_cons_of_mem _ (List.mem_append_right _ h))) dd t0 t1 (Ord.cons lq aq sq (Ord.app (OA.sub sA) (OB.sub sB))) (sub_cons hq (sub_app (fun x h => nA x (mA x h)) (fun x h => nB x (mB x h)))) hs2

theorem end_call0 {dep : Nat} {cost : Int} {turn' : Int} {tk' : Tok} {news' Rq Rp : List (Addr × Obj)} {q p : Addr} {o o2 : Obj} {tr : Tr} {h' : Heap} {tks : Nat}
    (hret : ∀ (r : Value) (news' : List (Addr × Obj)) (h' : Heap) (tk' : Nat), Fr h₀ L h' m → News h₀ L h' news' → (∃ (q : Addr) (tr : Tr) (turn' : Int) (tk' : Tok) (tl : List (Addr × Obj)),
      r = .ref q ∧ Rel tl q tr ∧ tr.dep ≤ dep ∧ turn ≤ turn' ∧ turn' ≤ turn + cost ∧ Ord fa rest tl ∧ ∀ p ∈ (fa, feedO c turn' tk') :: (tl ++ rest), p ∈ news') → Q r { s with heap := h', toks := tk' })
    (F : Fr h₀ L h' m) (N : News h₀ L h' news') (hq : (q, o) ∈ news') (hf : (fa, feedO c turn' tk') ∈ news') (R : ∀ l, (q, o) ∈ l → (p, o2) ∈ l → Rel l q tr) (hp : (p, o2) ∈ news') (lp : @LT.lt Nat _ fa p) (ap : AllLt p Rp) (sp : ∀ x ∈ rest, x ∈ Rp) (dd : tr.dep ≤ dep) (t0 : turn ≤ turn') (t1 : turn' ≤ turn + cost)
    (lq : @LT.lt Nat _ fa q) (aq : AllLt q Rq) (sq : ∀ x ∈ rest, x ∈ Rq) (hs2 : ∀ x ∈ rest, x ∈ news') : Q (.ref q) { s with heap := h', toks := tks } :=
  draw_end (tl := (q, o) :: [(p, o2)]) hret F N hf (R _ List.mem_cons_self (List.mem_cons_of_mem _ List.mem_cons_self)) dd t0 t1 (Ord.cons lq aq sq (Ord.cons lp ap sp Ord.nil)) (sub_cons hq (sub_cons hp sub_nil)) hs2

theorem end_call1 {dep : Nat} {cost : Int} {turn' : Int} {tk' : Tok} {news' Rq Rp RA TA A : List (Addr × Obj)} {q p u : Addr} {o o2 : Obj} {tr a : Tr} {h' : Heap} {tks : Nat}
    (hret : ∀ (r : Value) (news' : List (Addr × Obj)) (h' : Heap) (tk' : Nat), Fr h₀ L h' m → News h₀ L h' news' → (∃ (q : Addr) (tr : Tr) (turn' : Int) (tk' : Tok) (tl : List (Addr × Obj)),
      r = .ref q ∧ Rel tl q tr ∧ tr.dep ≤ dep ∧ turn ≤ turn' ∧ turn' ≤ turn + cost ∧ Ord fa rest tl ∧ ∀ p ∈ (fa, feedO c turn' tk') :: (tl ++ rest), p ∈ news') → Q r { s with heap := h', toks := tk' })
    (F : Fr h₀ L h' m) (N : News h₀ L h' news') (hq : (q, o) ∈ news') (hf : (fa, feedO c turn' tk') ∈ news') (R : ∀ l, (q, o) ∈ l → (p, o2) ∈ l → Rel l u a → Rel l q tr) (hp : (p, o2) ∈ news') (lp : @LT.lt Nat _ fa p) (ap : AllLt p Rp) (sp : ∀ x ∈ rest, x ∈ Rp) (hA : Rel A u a) (OA : Ord fa RA A) (sA : ∀ x ∈ rest, x ∈ RA) (mA : ∀ x ∈ A, x ∈ TA) (nA : ∀ x ∈ TA, x ∈ news') (dd : tr.dep ≤ dep) (t0 : turn ≤ turn') (t1 : turn' ≤ turn + cost)
    (lq : @LT.lt Nat _ fa q) (aq : AllLt q Rq) (sq : ∀ x ∈ rest, x ∈ Rq) (hs2 : ∀ x ∈ rest, x ∈ news') : Q (.ref q) { s with heap := h', toks := tks } :=
  draw_end (tl := (q, o) :: (p, o2) :: A) hret F N hf (R _ List.mem_cons_self (List.mem_cons_of_mem _ List.mem_cons_self) (hA.mono fun _ h => List.mem_cons_of_mem _ (List.mem_cons_of_mem _ h))) dd t0 t1 (Ord.cons lq aq sq (Ord.cons lp ap sp (OA.sub sA))) (sub_cons hq (sub_cons hp (fun x h => nA x (mA x h)))) hs2

theorem end_call2 {dep : Nat} {cost : Int} {turn' : Int} {tk' : Tok} {news' Rq Rp RA TA A RB TB B : List (Addr × Obj)} {q p u v : Addr} {o o2 : Obj} {tr a b : Tr} {h' : Heap} {tks : Nat}
    (hret : ∀ (r : Value) (news' : List (Addr × Obj)) (h' : Heap) (tk' : Nat), Fr h₀ L h' m → News h₀ L h' news' → (∃ (q : Addr) (tr : Tr) (turn' : Int) (tk' : Tok) (tl : List (Addr × Obj)),
      r = .ref q ∧ Rel tl q tr ∧ tr.dep ≤ dep ∧ turn ≤ turn' ∧ turn' ≤ turn + cost ∧ Ord fa rest tl ∧ ∀ p ∈ (fa, feedO c turn' tk') :: (tl ++ rest), p ∈ news') → Q r { s with heap := h', toks := tk' })
    (F : Fr h₀ L h' m) (N : News h₀ L h' news') (hq : (q, o) ∈ news') (hf : (fa, feedO c turn' tk') ∈ news') (R : ∀ l, (q, o) ∈ l → (p, o2) ∈ l → Rel l u a → Rel l v b → Rel l q tr) (hp : (p, o2) ∈ news') (lp : @LT.lt Nat _ fa p) (ap : AllLt p Rp) (sp : ∀ x ∈ rest, x ∈ Rp) (hA : Rel A u a) (OA : Ord fa RA A) (sA : ∀ x ∈ rest, x ∈ RA) (mA : ∀ x ∈ A, x ∈ TA) (nA : ∀ x ∈ TA, x ∈ news') (hB : Rel B v b) (OB : Ord fa RB B) (sB : ∀ x ∈ rest, x ∈ RB) (mB : ∀ x ∈ B, x ∈ TB) (nB : ∀ x ∈ TB, x ∈ news') (dd : tr.dep ≤ dep) (t0 : turn ≤ turn') (t1 : turn' ≤ turn + cost)
    (lq : @LT.lt Nat _ fa q) (aq : AllLt q Rq) (sq : ∀ x ∈ rest, x ∈ Rq) (hs2 : ∀ x ∈ rest, x ∈ news') : Q (.ref q) { s with heap := h', toks := tks } :=
  draw_end (tl := (q, o) :: (p, o2) :: (A ++ B)) hret F N hf (R _ List.mem_cons_self (List.mem_cons_of_mem _ List.mem_cons_self) (hA.mono fun _ h => List.mem_cons_of_mem _ (List.mem_cons_of_mem _ (List.mem_append_left _ h))) (hB.mono fun _ h => List.mem_cons_of_mem _ (List.mem_cons_of_mem _ (List.mem_append_right _ h)))) dd t0 t1 (Ord.cons lq aq sq (Ord.cons lp ap sp (Ord.app (OA.sub sA) (OB.sub sB)))) (sub_cons hq (sub_cons hp (sub_app (fun x h => nA x (mA x h)) (fun x h => nB x (mB x h))))) hs2
end
end Mine

namespace Mine
set_option maxRecDepth 100000

local macro_rules | `(tactic| walk_at "ite") => `(tactic| (k_here; first | (with_reducible refine' PySem.W.ite_pos ?c ?_; (case c => with_reducible assumption)) | (with_reducible refine' PySem.W.ite_neg ?c ?_; (case c => with_reducible exact ite_sure (by with_reducible assumption)))))
local macro_rules | `(tactic| walk_at "ite") => `(tactic| (k_closed; first | (with_reducible refine' PySem.W.ite_pos ?c ?_; (case c => k_dflt decide)) | (with_reducible refine' PySem.W.ite_neg ?c ?_; (case c => k_dflt decide))))
local macro_rules | `(tactic| k_all) => `(tactic| assumption)
local macro_rules | `(tactic| is_list) => `(tactic| exact News.isList (by k_asm) (by k_mem))
local macro_rules | `(tactic| k_mem) => `(tactic| ((repeat (first | with_reducible assumption | with_reducible exact List.mem_cons_self | with_reducible refine List.mem_cons_of_mem _ ?_ | with_reducible refine (show ∀ p ∈ _, p ∈ _ by with_reducible assumption) _ ?_)); done))
local macro_rules | `(tactic| walk_at "newTuple") => `(tactic| (k_here; k_dflt (refine' kup_newTuple ?F ?N ?_ ?z; (case F => k_asm); (case N => k_asm); (case z => kmk_size)); intro D' h' F' N' l1; (try k_lt l1); (try k_sweep)))
local macro_rules | `(tactic| walk_at "eval ListComp") => `(tactic| (k_here; k_dflt (refine LCg.ListComp_U (F₀ := by k_asm) (by with_unfolding_all rfl) (by decide) (by rfl) (by decide) (by rfl) ?_); k_dflt lcg_toSrc))
local macro_rules | `(tactic| walk_at "CompSrc") => `(tactic| (k_here; k_dflt (refine LCg.CompSrc.range (by rfl) (by k_asm) (by k_asm) (by assumption) (by first | decide | rfl) (by first | rfl | decide) (by first | size_fits | exact Nat.le_of_ble_eq_true rfl) ?_; intro g'; lcg_lit)))
local macro_rules | `(tactic| walk_at "CompRest") => `(tactic| (with_unfolding_all first
  | (refine LCg.CompRest.succ ?_; intro v' I' oI' C' oC' D' m' h' tk' E' hv' hC' hx' F' N' off' ne'; (obtain ⟨t9', hv9'⟩ := hv'; subst hv9'))
  | refine LCg.CompRest.zero ?_))
local macro_rules | `(tactic| walk_at "CompEnd") => `(tactic| (k_dflt (refine LCg.CompEnd.intro (by k_asm) (by k_asm) _ (fun _ h => h) (by assumption) trivial ?_)))
set_option maxHeartbeats 8000000 in
theorem named0 : Draws 42 0 6 0 2 := by
  intro w mean mg mb fa c turn tk t vs ns n rest hc hI hlen hoff h0 h1
  unfold Does
  w_top off
  k_fill
  intro dp un gd cn cs a ccd cl outer A₀ base h₀ L m s Q E B F X N T hk hroom hun hret
  w_strict (
    refine wpAny_call ?_
    k_dflt ktr_enter
    repeat' (first
      | ((with_reducible show wpAny _ _ (call (Value.ref _) _) _ _ _); first
        | (k_dflt (refine' use_next2 ?k1 ?k2 ?k3 ?k4 ?k5 ?kK ?hs ?hc ?hI ?hl ?ho ?h0 ?h1 ?kd ?ku ?_ ?_; (case k1 => k_asm); (case k2 => k_asm); (case k3 => k_asm); (case k4 => k_asm); (case k5 => k_asm); (case kK => first | exact rfl | assumption); (case hs => first | exact fun _ h => h | exact sub2 | exact sub3 | exact sub4 | exact sub5 | exact sub6); (case hc => k_mem); (case hI => assumption); (case hl => first | assumption | omega); (case ho => k_all); (case h0 => omega); (case h1 => omega); (case kd => ktr_room); (case ku => ktr_units)); all_goals (intro tk1 tk2 h9 tk9 F9 N9; (try dsimp only); (try k_fold)))
        | (k_dflt (refine' use_next3 ?k1 ?k2 ?k3 ?k4 ?k5 ?kK ?hs ?hc ?hI ?hl ?ho ?h0 ?h1 ?kd ?ku ?_ ?_ ?_; (case k1 => k_asm); (case k2 => k_asm); (case k3 => k_asm); (case k4 => k_asm); (case k5 => k_asm); (case kK => first | exact rfl | assumption); (case hs => first | exact fun _ h => h | exact sub2 | exact sub3 | exact sub4 | exact sub5 | exact sub6); (case hc => k_mem); (case hI => assumption); (case hl => first | assumption | omega); (case ho => k_all); (case h0 => omega); (case h1 => omega); (case kd => ktr_room); (case ku => ktr_units)); all_goals (intro tk1 tk2 h9 tk9 F9 N9; (try dsimp only); (try k_fold))))
      | (k_unfold; (try dsimp only))
      | (k_end; wrow_close)
      | walk1
      | (dsimp only; walk1)
      | (leave1; walk_say "STEP leave1"; try dsimp only))
    all_goals (first
      | (refine' end_leaf hret ?kF ?kN ?hq ?hf ?R  ?dd ?t0 ?t1 ?lq ?aq ?sq ?hs2; (case kF => k_asm); (case kN => k_asm); (case hq => k_mem); (case hf => k_mem); (case R => intro _ h; with_reducible first | exact Rel.name h | exact Rel.text h | exact Rel.whole h | exact Rel.null h | exact Rel.item h); (case dd => simp only [Tr.dep]; omega); (case t0 => omega); (case t1 => omega); (case lq => omega); (case aq => tbn_find); (case sq => intro p hp; k_mem); (case hs2 => intro p hp; k_mem))
      | skip)
    all_goals w_report)
set_option maxHeartbeats 8000000 in
theorem tree0 : Draws 47 0 6 0 2 := by
  intro w mean mg mb fa c turn tk t vs ns n rest hc hI hlen hoff h0 h1
  unfold Does
  w_top off
  k_fill
  intro dp un gd cn cs a ccd cl outer A₀ base h₀ L m s Q E B F X N T hk hroom hun hret
  w_strict (
    refine wpAny_call ?_
    k_dflt (
      refine' code_defC ?k1 ?k2 ?k3 ?k4 ?k5 ?kA ?kF ?kK ?k6 ?k7 ?k8 ?k9 ?kB ?kD ?_ ?c2 ?c3 ?c4
      (case kA => exact rfl); (case kF => exact rfl); (case kK => assumption); (case k1 => k_asm); (case k2 => k_asm); (case k3 => k_asm); (case k4 => k_asm); (case k5 => k_asm); (case k6 => k_is); (case k7 => k_is); (case k8 => ktr_room)
      (case k9 => exact BindsTo.of_eq rfl); (case kB => exact rfl); (case kD => decide +kernel); (case c2 => exact rfl); (case c3 => exact rfl); (case c4 => exact rfl); k_whole
      intro g' L' h' tk' cells' FG' F' N' Y' B' X' T' l1; (try k_lt l1); k_cells Y'; (try simp only [List.cons_append, List.nil_append] at N'); (try dsimp only); (try k_fold))
    repeat' (first
      | ((with_reducible show wpAny _ _ (call (Value.ref _) _) _ _ _); first
        | (k_dflt (refine' use_next2 ?k1 ?k2 ?k3 ?k4 ?k5 ?kK ?hs ?hc ?hI ?hl ?ho ?h0 ?h1 ?kd ?ku ?_ ?_; (case k1 => k_asm); (case k2 => k_asm); (case k3 => k_asm); (case k4 => k_asm); (case k5 => k_asm); (case kK => first | exact rfl | assumption); (case hs => first | exact fun _ h => h | exact sub2 | exact sub3 | exact sub4 | exact sub5 | exact sub6); (case hc => k_mem); (case hI => assumption); (case hl => first | assumption | omega); (case ho => k_all); (case h0 => omega); (case h1 => omega); (case kd => ktr_room); (case ku => ktr_units)); all_goals (intro tk1 tk2 h9 tk9 F9 N9; (try dsimp only); (try k_fold)))
        | (k_dflt (refine' use_next3 ?k1 ?k2 ?k3 ?k4 ?k5 ?kK ?hs ?hc ?hI ?hl ?ho ?h0 ?h1 ?kd ?ku ?_ ?_ ?_; (case k1 => k_asm); (case k2 => k_asm); (case k3 => k_asm); (case k4 => k_asm); (case k5 => k_asm); (case kK => first | exact rfl | assumption); (case hs => first | exact fun _ h => h | exact sub2 | exact sub3 | exact sub4 | exact sub5 | exact sub6); (case hc => k_mem); (case hI => assumption); (case hl => first | assumption | omega); (case ho => k_all); (case h0 => omega); (case h1 => omega); (case kd => ktr_room); (case ku => ktr_units)); all_goals (intro tk1 tk2 h9 tk9 F9 N9; (try dsimp only); (try k_fold))))
      | (k_unfold; (try dsimp only))
      | (k_end; wrow_close)
      | walk1
      | (dsimp only; walk1)
      | (leave1; walk_say "STEP leave1"; try dsimp only))
    all_goals (first
      | (refine' end_leaf hret ?kF ?kN ?hq ?hf ?R  ?dd ?t0 ?t1 ?lq ?aq ?sq ?hs2; (case kF => k_asm); (case kN => k_asm); (case hq => k_mem); (case hf => k_mem); (case R => intro _ h; with_reducible first | exact Rel.name h | exact Rel.text h | exact Rel.whole h | exact Rel.null h | exact Rel.item h); (case dd => simp only [Tr.dep]; omega); (case t0 => omega); (case t1 => omega); (case lq => omega); (case aq => tbn_find); (case sq => intro p hp; k_mem); (case hs2 => intro p hp; k_mem))
      | skip)
    all_goals w_report)
set_option maxHeartbeats 8000000 in
theorem named1 : Draws 42 1 9 1 3 := by
  intro w mean mg mb fa c turn tk t vs ns n rest hc hI hlen hoff h0 h1
  unfold Does
  w_top off
  k_fill
  intro dp un gd cn cs a ccd cl outer A₀ base h₀ L m s Q E B F X N T hk hroom hun hret
  w_strict (
    refine wpAny_call ?_
    k_dflt ktr_enter
    repeat' (first
      | ((with_reducible show wpAny _ _ (call (Value.ref _) _) _ _ _); first
        | (k_dflt (refine' use_next3 ?k1 ?k2 ?k3 ?k4 ?k5 ?kK ?hs ?hc ?hI ?hl ?ho ?h0 ?h1 ?kd ?ku ?_ ?_ ?_; (case k1 => k_asm); (case k2 => k_asm); (case k3 => k_asm); (case k4 => k_asm); (case k5 => k_asm); (case kK => first | exact rfl | assumption); (case hs => first | exact fun _ h => h | exact sub2 | exact sub3 | exact sub4 | exact sub5 | exact sub6); (case hc => k_mem); (case hI => assumption); (case hl => first | assumption | omega); (case ho => k_all); (case h0 => omega); (case h1 => omega); (case kd => ktr_room); (case ku => ktr_units)); all_goals (intro tk1 tk2 h9 tk9 F9 N9; (try dsimp only); (try k_fold)))
        | (k_dflt (refine' use_next4 ?k1 ?k2 ?k3 ?k4 ?k5 ?kK ?hs ?hc ?hI ?hl ?ho ?h0 ?h1 ?kd ?ku ?_ ?_ ?_ ?_; (case k1 => k_asm); (case k2 => k_asm); (case k3 => k_asm); (case k4 => k_asm); (case k5 => k_asm); (case kK => first | exact rfl | assumption); (case hs => first | exact fun _ h => h | exact sub2 | exact sub3 | exact sub4 | exact sub5 | exact sub6); (case hc => k_mem); (case hI => assumption); (case hl => first | assumption | omega); (case ho => k_all); (case h0 => omega); (case h1 => omega); (case kd => ktr_room); (case ku => ktr_units)); all_goals (intro tk1 tk2 h9 tk9 F9 N9; (try dsimp only); (try k_fold)))
        | (k_dflt (refine' use_draw tree0 ?k1 ?k2 ?k3 ?k4 ?k5 ?kK ?he ?hs ?hc ?hI ?hl ?ho ?h0 ?h1 ?kd ?ku ?_; (case k1 => k_asm); (case k2 => k_asm); (case k3 => k_asm); (case k4 => k_asm); (case k5 => k_asm); (case kK => first | exact rfl | assumption); (case he => first | rfl | omega); (case hs => first | exact fun _ h => h | exact sub2 | exact sub3 | exact sub4 | exact sub5 | exact sub6); (case hc => k_mem); (case hI => assumption); (case hl => first | assumption | omega); (case ho => k_all); (case h0 => omega); (case h1 => omega); (case kd => ktr_room); (case ku => ktr_units)); intro q9 tr9 turn9 tk2 tl9 rest9 h9 tk9 R9 dp9 t9 u9 O9 subA9 subB9 off9 F9 N9; (try dsimp only); (try k_fold)))
      | (k_unfold; (try dsimp only))
      | (k_end; wrow_close)
      | walk1
      | (dsimp only; walk1)
      | (leave1; walk_say "STEP leave1"; try dsimp only))
    all_goals (first
      | (refine' end_leaf hret ?kF ?kN ?hq ?hf ?R  ?dd ?t0 ?t1 ?lq ?aq ?sq ?hs2; (case kF => k_asm); (case kN => k_asm); (case hq => k_mem); (case hf => k_mem); (case R => intro _ h; with_reducible first | exact Rel.name h | exact Rel.text h | exact Rel.whole h | exact Rel.null h | exact Rel.item h); (case dd => simp only [Tr.dep]; omega); (case t0 => omega); (case t1 => omega); (case lq => omega); (case aq => tbn_find); (case sq => intro p hp; k_mem); (case hs2 => intro p hp; k_mem))
      | (refine' end_one hret ?kF ?kN ?hq ?hf ?R ?hA ?OA ?sA ?mA ?nA ?dd ?t0 ?t1 ?lq ?aq ?sq ?hs2; (case kF => k_asm); (case kN => k_asm); (case hq => k_mem); (case hf => k_mem); (case R => intro _ h k; with_reducible first | exact Rel.una h u_plus k | exact Rel.una h u_minus k | exact Rel.una h u_quest k | exact Rel.una h u_tilde k | exact Rel.una h u_star k | exact Rel.una h u_dol k | exact Rel.una h u_dot k | exact Rel.una h u_at k); (case hA => with_reducible assumption); (case OA => with_reducible assumption); (case sA => intro p hp; k_mem); (case mA => with_reducible assumption); (case nA => intro p hp; k_mem); (case dd => simp only [Tr.dep]; omega); (case t0 => omega); (case t1 => omega); (case lq => omega); (case aq => tbn_find); (case sq => intro p hp; k_mem); (case hs2 => intro p hp; k_mem))
      | skip)
    all_goals w_report)
set_option maxHeartbeats 8000000 in
theorem tree_step {d : Int} {need dep : Nat} {cost : Int} (hd0 : 0 ≤ d) (hc0 : 0 ≤ cost) (hne : 3 ≤ need) (HT : Draws 47 d need dep cost) (HN : Draws 42 d need dep cost) : Draws 47 (d + 1) (need + 3) (dep + 1) (3 * cost + 2) := by
  intro w mean mg mb fa c turn tk t vs ns n rest hc hI hlen hoff h0 h1
  unfold Does
  w_top off
  k_fill
  intro dp un gd cn cs a ccd cl outer A₀ base h₀ L m s Q E B F X N T hk hroom hun hret
  w_strict (
    refine wpAny_call ?_
    k_dflt (
      refine' code_defC ?k1 ?k2 ?k3 ?k4 ?k5 ?kA ?kF ?kK ?k6 ?k7 ?k8 ?k9 ?kB ?kD ?_ ?c2 ?c3 ?c4
      (case kA => exact rfl); (case kF => exact rfl); (case kK => assumption); (case k1 => k_asm); (case k2 => k_asm); (case k3 => k_asm); (case k4 => k_asm); (case k5 => k_asm); (case k6 => k_is); (case k7 => k_is); (case k8 => ktr_room)
      (case k9 => exact BindsTo.of_eq rfl); (case kB => exact rfl); (case kD => decide +kernel); (case c2 => exact rfl); (case c3 => exact rfl); (case c4 => exact rfl); k_whole
      intro g' L' h' tk' cells' FG' F' N' Y' B' X' T' l1; (try k_lt l1); k_cells Y'; (try simp only [List.cons_append, List.nil_append] at N'); (try dsimp only); (try k_fold))
    repeat' (first
      | ((with_reducible show wpAny _ _ (call (Value.ref _) _) _ _ _); first
        | (k_dflt (refine' use_next9 ?k1 ?k2 ?k3 ?k4 ?k5 ?kK ?hs ?hc ?hI ?hl ?ho ?h0 ?h1 ?kd ?ku ?_ ?_ ?_ ?_ ?_ ?_ ?_ ?_ ?_; (case k1 => k_asm); (case k2 => k_asm); (case k3 => k_asm); (case k4 => k_asm); (case k5 => k_asm); (case kK => first | exact rfl | assumption); (case hs => first | exact fun _ h => h | exact sub2 | exact sub3 | exact sub4 | exact sub5 | exact sub6); (case hc => k_mem); (case hI => assumption); (case hl => first | assumption | omega); (case ho => k_all); (case h0 => omega); (case h1 => omega); (case kd => ktr_room); (case ku => ktr_units)); all_goals (intro tk1 tk2 h9 tk9 F9 N9; (try dsimp only); (try k_fold)))
        | (k_dflt (refine' use_next6 ?k1 ?k2 ?k3 ?k4 ?k5 ?kK ?hs ?hc ?hI ?hl ?ho ?h0 ?h1 ?kd ?ku ?_ ?_ ?_ ?_ ?_ ?_; (case k1 => k_asm); (case k2 => k_asm); (case k3 => k_asm); (case k4 => k_asm); (case k5 => k_asm); (case kK => first | exact rfl | assumption); (case hs => first | exact fun _ h => h | exact sub2 | exact sub3 | exact sub4 | exact sub5 | exact sub6); (case hc => k_mem); (case hI => assumption); (case hl => first | assumption | omega); (case ho => k_all); (case h0 => omega); (case h1 => omega); (case kd => ktr_room); (case ku => ktr_units)); all_goals (intro tk1 tk2 h9 tk9 F9 N9; (try dsimp only); (try k_fold)))
        | (k_dflt (refine' use_next4 ?k1 ?k2 ?k3 ?k4 ?k5 ?kK ?hs ?hc ?hI ?hl ?ho ?h0 ?h1 ?kd ?ku ?_ ?_ ?_ ?_; (case k1 => k_asm); (case k2 => k_asm); (case k3 => k_asm); (case k4 => k_asm); (case k5 => k_asm); (case kK => first | exact rfl | assumption); (case hs => first | exact fun _ h => h | exact sub2 | exact sub3 | exact sub4 | exact sub5 | exact sub6); (case hc => k_mem); (case hI => assumption); (case hl => first | assumption | omega); (case ho => k_all); (case h0 => omega); (case h1 => omega); (case kd => ktr_room); (case ku => ktr_units)); all_goals (intro tk1 tk2 h9 tk9 F9 N9; (try dsimp only); (try k_fold)))
        | (k_dflt (refine' use_next3 ?k1 ?k2 ?k3 ?k4 ?k5 ?kK ?hs ?hc ?hI ?hl ?ho ?h0 ?h1 ?kd ?ku ?_ ?_ ?_; (case k1 => k_asm); (case k2 => k_asm); (case k3 => k_asm); (case k4 => k_asm); (case k5 => k_asm); (case kK => first | exact rfl | assumption); (case hs => first | exact fun _ h => h | exact sub2 | exact sub3 | exact sub4 | exact sub5 | exact sub6); (case hc => k_mem); (case hI => assumption); (case hl => first | assumption | omega); (case ho => k_all); (case h0 => omega); (case h1 => omega); (case kd => ktr_room); (case ku => ktr_units)); all_goals (intro tk1 tk2 h9 tk9 F9 N9; (try dsimp only); (try k_fold)))
        | (k_dflt (refine' use_next2 ?k1 ?k2 ?k3 ?k4 ?k5 ?kK ?hs ?hc ?hI ?hl ?ho ?h0 ?h1 ?kd ?ku ?_ ?_; (case k1 => k_asm); (case k2 => k_asm); (case k3 => k_asm); (case k4 => k_asm); (case k5 => k_asm); (case kK => first | exact rfl | assumption); (case hs => first | exact fun _ h => h | exact sub2 | exact sub3 | exact sub4 | exact sub5 | exact sub6); (case hc => k_mem); (case hI => assumption); (case hl => first | assumption | omega); (case ho => k_all); (case h0 => omega); (case h1 => omega); (case kd => ktr_room); (case ku => ktr_units)); all_goals (intro tk1 tk2 h9 tk9 F9 N9; (try dsimp only); (try k_fold)))
        | (k_dflt (refine' use_drawC HT ?k1 ?k2 ?k3 ?k4 ?of ?k5 ?kK ?he ?hc ?hI ?hl ?ho ?h0 ?h1 ?kd ?ku ?_; (case k1 => k_asm); (case k2 => k_asm); (case k3 => k_asm); (case k4 => k_asm); (case of => assumption); (case k5 => k_asm); (case kK => first | exact rfl | assumption); (case he => first | rfl | omega); (case hc => k_mem); (case hI => assumption); (case hl => first | assumption | omega); (case ho => k_all); (case h0 => omega); (case h1 => omega); (case kd => ktr_room); (case ku => ktr_units)); intro q9 tr9 turn9 tk2 tl9 rest9 h9 tk9 R9 dp9 t9 u9 O9 subA9 subB9 off9 off3 F9 N9; (try dsimp only); (try k_fold))
        | (k_dflt (refine' use_draw HT ?k1 ?k2 ?k3 ?k4 ?k5 ?kK ?he ?hs ?hc ?hI ?hl ?ho ?h0 ?h1 ?kd ?ku ?_; (case k1 => k_asm); (case k2 => k_asm); (case k3 => k_asm); (case k4 => k_asm); (case k5 => k_asm); (case kK => first | exact rfl | assumption); (case he => first | rfl | omega); (case hs => first | exact fun _ h => h | exact sub2 | exact sub3 | exact sub4 | exact sub5 | exact sub6); (case hc => k_mem); (case hI => assumption); (case hl => first | assumption | omega); (case ho => k_all); (case h0 => omega); (case h1 => omega); (case kd => ktr_room); (case ku => ktr_units)); intro q9 tr9 turn9 tk2 tl9 rest9 h9 tk9 R9 dp9 t9 u9 O9 subA9 subB9 off9 F9 N9; (try dsimp only); (try k_fold))
        | (k_dflt (refine' use_draw HN ?k1 ?k2 ?k3 ?k4 ?k5 ?kK ?he ?hs ?hc ?hI ?hl ?ho ?h0 ?h1 ?kd ?ku ?_; (case k1 => k_asm); (case k2 => k_asm); (case k3 => k_asm); (case k4 => k_asm); (case k5 => k_asm); (case kK => first | exact rfl | assumption); (case he => first | rfl | omega); (case hs => first | exact fun _ h => h | exact sub2 | exact sub3 | exact sub4 | exact sub5 | exact sub6); (case hc => k_mem); (case hI => assumption); (case hl => first | assumption | omega); (case ho => k_all); (case h0 => omega); (case h1 => omega); (case kd => ktr_room); (case ku => ktr_units)); intro q9 tr9 turn9 tk2 tl9 rest9 h9 tk9 R9 dp9 t9 u9 O9 subA9 subB9 off9 F9 N9; (try dsimp only); (try k_fold)))
      | (k_unfold; (try dsimp only))
      | (k_end; wrow_close)
      | walk1
      | (dsimp only; walk1)
      | (leave1; walk_say "STEP leave1"; try dsimp only))
    all_goals (first
      | (refine' end_leaf hret ?kF ?kN ?hq ?hf ?R  ?dd ?t0 ?t1 ?lq ?aq ?sq ?hs2; (case kF => k_asm); (case kN => k_asm); (case hq => k_mem); (case hf => k_mem); (case R => intro _ h; with_reducible first | exact Rel.name h | exact Rel.text h | exact Rel.whole h | exact Rel.null h | exact Rel.item h); (case dd => simp only [Tr.dep]; omega); (case t0 => omega); (case t1 => omega); (case lq => omega); (case aq => tbn_find); (case sq => intro p hp; k_mem); (case hs2 => intro p hp; k_mem))
      | (refine' end_one hret ?kF ?kN ?hq ?hf ?R ?hA ?OA ?sA ?mA ?nA ?dd ?t0 ?t1 ?lq ?aq ?sq ?hs2; (case kF => k_asm); (case kN => k_asm); (case hq => k_mem); (case hf => k_mem); (case R => intro _ h k; with_reducible first | exact Rel.una h u_plus k | exact Rel.una h u_minus k | exact Rel.una h u_quest k | exact Rel.una h u_tilde k | exact Rel.una h u_star k | exact Rel.una h u_dol k | exact Rel.una h u_dot k | exact Rel.una h u_at k); (case hA => with_reducible assumption); (case OA => with_reducible assumption); (case sA => intro p hp; k_mem); (case mA => with_reducible assumption); (case nA => intro p hp; k_mem); (case dd => simp only [Tr.dep]; omega); (case t0 => omega); (case t1 => omega); (case lq => omega); (case aq => tbn_find); (case sq => intro p hp; k_mem); (case hs2 => intro p hp; k_mem))
      | (refine' end_two hret ?kF ?kN ?hq ?hf ?R ?hA ?OA ?sA ?mA ?nA ?hB ?OB ?sB ?mB ?nB ?dd ?t0 ?t1 ?lq ?aq ?sq ?hs2; (case kF => k_asm); (case kN => k_asm); (case hq => k_mem); (case hf => k_mem); (case R => intro _ h j k; with_reducible exact Rel.join h j k); (case hA => with_reducible assumption); (case OA => with_reducible assumption); (case sA => intro p hp; k_mem); (case mA => with_reducible assumption); (case nA => intro p hp; k_mem); (case hB => with_reducible assumption); (case OB => with_reducible assumption); (case sB => intro p hp; k_mem); (case mB => with_reducible assumption); (case nB => intro p hp; k_mem); (case dd => simp only [Tr.dep]; omega); (case t0 => omega); (case t1 => omega); (case lq => omega); (case aq => tbn_find); (case sq => intro p hp; k_mem); (case hs2 => intro p hp; k_mem))
      | (refine' end_two hret ?kF ?kN ?hq ?hf ?R ?hA ?OA ?sA ?mA ?nA ?hB ?OB ?sB ?mB ?nB ?dd ?t0 ?t1 ?lq ?aq ?sq ?hs2; (case kF => k_asm); (case kN => k_asm); (case hq => k_mem); (case hf => k_mem); (case R => intro _ h j k; with_reducible first | exact Rel.bin h b_plus j k | exact Rel.bin h b_bar j k | exact Rel.bin h b_pow j k | exact Rel.bin h b_hash j k | exact Rel.bin h b_dot j k | exact Rel.bin h b_dol j k); (case hA => with_reducible assumption); (case OA => with_reducible assumption); (case sA => intro p hp; k_mem); (case mA => with_reducible assumption); (case nA => intro p hp; k_mem); (case hB => with_reducible assumption); (case OB => with_reducible assumption); (case sB => intro p hp; k_mem); (case mB => with_reducible assumption); (case nB => intro p hp; k_mem); (case dd => simp only [Tr.dep]; omega); (case t0 => omega); (case t1 => omega); (case lq => omega); (case aq => tbn_find); (case sq => intro p hp; k_mem); (case hs2 => intro p hp; k_mem))
      | (refine' end_call0 hret ?kF ?kN ?hq ?hf ?R ?hp ?lp ?ap ?sp ?dd ?t0 ?t1 ?lq ?aq ?sq ?hs2; (case kF => k_asm); (case kN => k_asm); (case hq => k_mem); (case hf => k_mem); (case R => intro _ h k; with_reducible exact Rel.call0 h k); (case hp => k_mem); (case lp => omega); (case ap => tbn_find); (case sp => intro p hp; k_mem); (case dd => simp only [Tr.dep]; omega); (case t0 => omega); (case t1 => omega); (case lq => omega); (case aq => tbn_find); (case sq => intro p hp; k_mem); (case hs2 => intro p hp; k_mem))
      | (refine' end_call1 hret ?kF ?kN ?hq ?hf ?R ?hp ?lp ?ap ?sp ?hA ?OA ?sA ?mA ?nA ?dd ?t0 ?t1 ?lq ?aq ?sq ?hs2; (case kF => k_asm); (case kN => k_asm); (case hq => k_mem); (case hf => k_mem); (case R => intro _ h k i; with_reducible exact Rel.call1 h k i); (case hp => k_mem); (case lp => omega); (case ap => tbn_find); (case sp => intro p hp; k_mem); (case hA => with_reducible assumption); (case OA => with_reducible assumption); (case sA => intro p hp; k_mem); (case mA => with_reducible assumption); (case nA => intro p hp; k_mem); (case dd => simp only [Tr.dep]; omega); (case t0 => omega); (case t1 => omega); (case lq => omega); (case aq => tbn_find); (case sq => intro p hp; k_mem); (case hs2 => intro p hp; k_mem))
      | (refine' end_call2 hret ?kF ?kN ?hq ?hf ?R ?hp ?lp ?ap ?sp ?hA ?OA ?sA ?mA ?nA ?hB ?OB ?sB ?mB ?nB ?dd ?t0 ?t1 ?lq ?aq ?sq ?hs2; (case kF => k_asm); (case kN => k_asm); (case hq => k_mem); (case hf => k_mem); (case R => intro _ h k i j; with_reducible exact Rel.call2 h k i j); (case hp => k_mem); (case lp => omega); (case ap => tbn_find); (case sp => intro p hp; k_mem); (case hA => with_reducible assumption); (case OA => with_reducible assumption); (case sA => intro p hp; k_mem); (case mA => with_reducible assumption); (case nA => intro p hp; k_mem); (case hB => with_reducible assumption); (case OB => with_reducible assumption); (case sB => intro p hp; k_mem); (case mB => with_reducible assumption); (case nB => intro p hp; k_mem); (case dd => simp only [Tr.dep]; omega); (case t0 => omega); (case t1 => omega); (case lq => omega); (case aq => tbn_find); (case sq => intro p hp; k_mem); (case hs2 => intro p hp; k_mem))
      | skip)
    all_goals w_report)
end Mine

namespace Mine
set_option maxRecDepth 100000
theorem Draws.le {f : Addr} {d : Int} {n n' k k' : Nat} {c c' : Int} (h : Draws f d n k c) (hn : n ≤ n') (hk : k ≤ k') (hc : c ≤ c') : Draws f d n' k' c' := by
  intro w mean mg mb fa c₀ turn tk t vs ns n₀ rest hm hI hlen hoff h0 h1 dp un gd cn cs a ccd cl outer A₀ base h₀ L m s Q E B F X N T hcs hd hu hret
  exact h w mean mg mb fa c₀ turn tk t vs ns n₀ rest hm hI hlen hoff h0 (by omega) dp un gd cn cs a ccd cl outer A₀ base h₀ L m s Q E B F X N T hcs (by omega) (by omega)
    (fun r news' h' tk' F' N' ⟨q, tr, turn', tk2, tl, e1, R, dd, t0, t1, O, sub⟩ => hret r news' h' tk' F' N' ⟨q, tr, turn', tk2, tl, e1, R, by omega, t0, by omega, O, sub⟩)
theorem tree1 : Draws 47 1 9 1 8 := tree_step (d := 0) (by decide) (by decide) (by decide) tree0 named0
theorem tree2 : Draws 47 2 12 2 26 := tree_step (d := 1) (by decide) (by decide) (by decide) tree1 (named1.le (by decide) (by decide) (by decide))
end Mine

namespace Mine
set_option maxRecDepth 100000


theorem StrsAre_len : ∀ {vs : List Value} {xs : List Str}, StrsAre vs xs → vs.length = xs.length
  | _, _, .nil => rfl
  | _, _, .cons _ _ h => congrArg (· + 1) (StrsAre_len h)
def Above (news tl : List (Addr × Obj)) : Prop := ∀ p ∈ tl, ∀ q ∈ news, @LT.lt Nat _ q.1 p.1
/-- the contract of a def that is asked of a drawn tree: f(tree) is a list of the texts xs -/
def Asks (f : Addr) (t : Tr) (need : Nat) (xs : List Str) : Prop :=
  ∀ (w : World) (mean : ExcName → Option Value) (mg mb : Str → Option Value) (q : Addr) (news : List (Addr × Obj)), Rel news q t →
    Does w mean mg mb f need [.ref q] news (fun r news' => ∃ (l : Addr) (vs : List Value) (n : Nat) (tl : List (Addr × Obj)),
      r = .ref l ∧ StrsAre vs xs ∧ (l, W.listOf vs.toArray n) ∈ tl ∧ Above news tl ∧ ∀ p ∈ tl ++ news, p ∈ news')
section
variable {w : World} {mean : ExcName → Option Value} {mg mb : Str → Option Value} {dp un : Nat} {gd : Option (List Code)} {cn : Str} {cs : Scope} {a : Addr} {ccd : Value} {cl : List (Str × Addr)} {outer : List Env} {A₀ : Around} {base h₀ : Heap} {L : Addr} {m : Str → Option Value} {s : Shared} {Q E : Value → Shared → Prop}
  {q : Addr} {t : Tr} {need : Nat} {xs : List Str} {f : Addr} {news : List (Addr × Obj)}

theorem use_ask0 {R : List (Addr × Obj)} (A : Asks f t need xs) (B : Below A₀ base outer h₀) (F : Fr h₀ L s.heap m) (X : (hd.heap_39 w.params).In h₀) (N : News h₀ L s.heap (R)) (T : Top hd.view_39 (looseW hd.view_39 []) mean mg mb h₀) (hk : cs.kind = .function)
    (hR : Rel news q t) (hs : ∀ p ∈ news, p ∈ R)  (hd : dp + need < recursionLimit) (hu : un + 8 * need < cLine)
    (ret : ∀ (l : Addr) (vs : List Value) (n : Nat) (R' : List (Addr × Obj)) (h' : Heap) (tk' : Nat), StrsAre vs xs → vs.length = xs.length → (l, W.listOf vs.toArray n) ∈ R' → (∀ p ∈ R, p ∈ R') → (∀ p ∈ R, @LT.lt Nat _ p.1 l) → Fr h₀ L h' m → News h₀ L h' (R') → Q (.ref l) { s with heap := h', toks := tk' }) :
    wpAny (model PySem.Challenge.rw_rh0222_01.row.prog w) (ktrTop dp un gd cn cs L a ccd cl outer) (call (.ref f) [.ref q]) Q E s :=
  A w mean mg mb q (R) (hR.mono hs) dp un gd cn cs a ccd cl outer A₀ base h₀ L m s Q E B F X N T hk hd hu
    (fun r news' h' tk' F' N' ⟨l, vs, n, tl, e1, hv, hl, ab, sub⟩ => by
      subst e1
      refine ret l vs n (tl ++ R) h' tk' hv (StrsAre_len hv) (List.mem_append.mpr (.inl hl)) (fun p hp => List.mem_append.mpr (.inr hp)) (ab _ hl) F' fun p hp => N' p (sub p ?_)
      simp only [List.mem_cons, List.mem_append] at hp ⊢
      rcases hp with h | h <;> simp only [h, true_or, or_true])

theorem use_ask1 {R : List (Addr × Obj)} {x0 : Addr} {o0 : Obj} (A : Asks f t need xs) (B : Below A₀ base outer h₀) (F : Fr h₀ L s.heap m) (X : (hd.heap_39 w.params).In h₀) (N : News h₀ L s.heap ((x0, o0) :: R)) (T : Top hd.view_39 (looseW hd.view_39 []) mean mg mb h₀) (hk : cs.kind = .function)
    (hR : Rel news q t) (hs : ∀ p ∈ news, p ∈ (x0, o0) :: R) (f0 : ∀ p ∈ R, p.1 ≠ x0) (hd : dp + need < recursionLimit) (hu : un + 8 * need < cLine)
    (ret : ∀ (l : Addr) (vs : List Value) (n : Nat) (R' : List (Addr × Obj)) (h' : Heap) (tk' : Nat), StrsAre vs xs → vs.length = xs.length → (l, W.listOf vs.toArray n) ∈ R' → (∀ p ∈ R, p ∈ R') → (∀ p ∈ (x0, o0) :: R, @LT.lt Nat _ p.1 l) → (∀ p ∈ R', p.1 ≠ x0) → Fr h₀ L h' m → News h₀ L h' ((x0, o0) :: R') → Q (.ref l) { s with heap := h', toks := tk' }) :
    wpAny (model PySem.Challenge.rw_rh0222_01.row.prog w) (ktrTop dp un gd cn cs L a ccd cl outer) (call (.ref f) [.ref q]) Q E s :=
  A w mean mg mb q ((x0, o0) :: R) (hR.mono hs) dp un gd cn cs a ccd cl outer A₀ base h₀ L m s Q E B F X N T hk hd hu
    (fun r news' h' tk' F' N' ⟨l, vs, n, tl, e1, hv, hl, ab, sub⟩ => by
      subst e1
      refine ret l vs n (tl ++ R) h' tk' hv (StrsAre_len hv) (List.mem_append.mpr (.inl hl)) (fun p hp => List.mem_append.mpr (.inr hp)) (ab _ hl) (fun p hp => (List.mem_append.mp hp).elim (fun h => Nat.ne_of_gt (ab p h _ (List.Mem.head _))) (f0 p)) F' fun p hp => N' p (sub p ?_)
      simp only [List.mem_cons, List.mem_append] at hp ⊢
      rcases hp with h | h | h <;> simp only [h, true_or, or_true])

theorem use_ask2 {R : List (Addr × Obj)} {x0 x1 : Addr} {o0 o1 : Obj} (A : Asks f t need xs) (B : Below A₀ base outer h₀) (F : Fr h₀ L s.heap m) (X : (hd.heap_39 w.params).In h₀) (N : News h₀ L s.heap ((x0, o0) :: (x1, o1) :: R)) (T : Top hd.view_39 (looseW hd.view_39 []) mean mg mb h₀) (hk : cs.kind = .function)
    (hR : Rel news q t) (hs : ∀ p ∈ news, p ∈ (x0, o0) :: (x1, o1) :: R) (f0 : ∀ p ∈ R, p.1 ≠ x0) (f1 : ∀ p ∈ R, p.1 ≠ x1) (hd : dp + need < recursionLimit) (hu : un + 8 * need < cLine)
    (ret : ∀ (l : Addr) (vs : List Value) (n : Nat) (R' : List (Addr × Obj)) (h' : Heap) (tk' : Nat), StrsAre vs xs → vs.length = xs.length → (l, W.listOf vs.toArray n) ∈ R' → (∀ p ∈ R, p ∈ R') → (∀ p ∈ (x0, o0) :: (x1, o1) :: R, @LT.lt Nat _ p.1 l) → (∀ p ∈ R', p.1 ≠ x0) → (∀ p ∈ R', p.1 ≠ x1) → Fr h₀ L h' m → News h₀ L h' ((x0, o0) :: (x1, o1) :: R') → Q (.ref l) { s with heap := h', toks := tk' }) :
    wpAny (model PySem.Challenge.rw_rh0222_01.row.prog w) (ktrTop dp un gd cn cs L a ccd cl outer) (call (.ref f) [.ref q]) Q E s :=
  A w mean mg mb q ((x0, o0) :: (x1, o1) :: R) (hR.mono hs) dp un gd cn cs a ccd cl outer A₀ base h₀ L m s Q E B F X N T hk hd hu
    (fun r news' h' tk' F' N' ⟨l, vs, n, tl, e1, hv, hl, ab, sub⟩ => by
      subst e1
      refine ret l vs n (tl ++ R) h' tk' hv (StrsAre_len hv) (List.mem_append.mpr (.inl hl)) (fun p hp => List.mem_append.mpr (.inr hp)) (ab _ hl) (fun p hp => (List.mem_append.mp hp).elim (fun h => Nat.ne_of_gt (ab p h _ (List.Mem.head _))) (f0 p)) (fun p hp => (List.mem_append.mp hp).elim (fun h => Nat.ne_of_gt (ab p h _ (List.Mem.tail _ (List.Mem.head _)))) (f1 p)) F' fun p hp => N' p (sub p ?_)
      simp only [List.mem_cons, List.mem_append] at hp ⊢
      rcases hp with h | h | h | h <;> simp only [h, true_or, or_true])

theorem use_ask3 {R : List (Addr × Obj)} {x0 x1 x2 : Addr} {o0 o1 o2 : Obj} (A : Asks f t need xs) (B : Below A₀ base outer h₀) (F : Fr h₀ L s.heap m) (X : (hd.heap_39 w.params).In h₀) (N : News h₀ L s.heap ((x0, o0) :: (x1, o1) :: (x2, o2) :: R)) (T : Top hd.view_39 (looseW hd.view_39 []) mean mg mb h₀) (hk : cs.kind = .function)
    (hR : Rel news q t) (hs : ∀ p ∈ news, p ∈ (x0, o0) :: (x1, o1) :: (x2, o2) :: R) (f0 : ∀ p ∈ R, p.1 ≠ x0) (f1 : ∀ p ∈ R, p.1 ≠ x1) (f2 : ∀ p ∈ R, p.1 ≠ x2) (hd : dp + need < recursionLimit) (hu : un + 8 * need < cLine)
    (ret : ∀ (l : Addr) (vs : List Value) (n : Nat) (R' : List (Addr × Obj)) (h' : Heap) (tk' : Nat), StrsAre vs xs → vs.length = xs.length → (l, W.listOf vs.toArray n) ∈ R' → (∀ p ∈ R, p ∈ R') → (∀ p ∈ (x0, o0) :: (x1, o1) :: (x2, o2) :: R, @LT.lt Nat _ p.1 l) → (∀ p ∈ R', p.1 ≠ x0) → (∀ p ∈ R', p.1 ≠ x1) → (∀ p ∈ R', p.1 ≠ x2) → Fr h₀ L h' m → News h₀ L h' ((x0, o0) :: (x1, o1) :: (x2, o2) :: R') → Q (.ref l) { s with heap := h', toks := tk' }) :
    wpAny (model PySem.Challenge.rw_rh0222_01.row.prog w) (ktrTop dp un gd cn cs L a ccd cl outer) (call (.ref f) [.ref q]) Q E s :=
  A w mean mg mb q ((x0, o0) :: (x1, o1) :: (x2, o2) :: R) (hR.mono hs) dp un gd cn cs a ccd cl outer A₀ base h₀ L m s Q E B F X N T hk hd hu
    (fun r news' h' tk' F' N' ⟨l, vs, n, tl, e1, hv, hl, ab, sub⟩ => by
      subst e1
      refine ret l vs n (tl ++ R) h' tk' hv (StrsAre_len hv) (List.mem_append.mpr (.inl hl)) (fun p hp => List.mem_append.mpr (.inr hp)) (ab _ hl) (fun p hp => (List.mem_append.mp hp).elim (fun h => Nat.ne_of_gt (ab p h _ (List.Mem.head _))) (f0 p)) (fun p hp => (List.mem_append.mp hp).elim (fun h => Nat.ne_of_gt (ab p h _ (List.Mem.tail _ (List.Mem.head _)))) (f1 p)) (fun p hp => (List.mem_append.mp hp).elim (fun h => Nat.ne_of_gt (ab p h _ (List.Mem.tail _ (List.Mem.tail _ (List.Mem.head _))))) (f2 p)) F' fun p hp => N' p (sub p ?_)
      simp only [List.mem_cons, List.mem_append] at hp ⊢
      rcases hp with h | h | h | h | h <;> simp only [h, true_or, or_true])

theorem use_ask4 {R : List (Addr × Obj)} {x0 x1 x2 x3 : Addr} {o0 o1 o2 o3 : Obj} (A : Asks f t need xs) (B : Below A₀ base outer h₀) (F : Fr h₀ L s.heap m) (X : (hd.heap_39 w.params).In h₀) (N : News h₀ L s.heap ((x0, o0) :: (x1, o1) :: (x2, o2) :: (x3, o3) :: R)) (T : Top hd.view_39 (looseW hd.view_39 []) mean mg mb h₀) (hk : cs.kind = .function)
    (hR : Rel news q t) (hs : ∀ p ∈ news, p ∈ (x0, o0) :: (x1, o1) :: (x2, o2) :: (x3, o3) :: R) (f0 : ∀ p ∈ R, p.1 ≠ x0) (f1 : ∀ p ∈ R, p.1 ≠ x1) (f2 : ∀ p ∈ R, p.1 ≠ x2) (f3 : ∀ p ∈ R, p.1 ≠ x3) (hd : dp + need < recursionLimit) (hu : un + 8 * need < cLine)
    (ret : ∀ (l : Addr) (vs : List Value) (n : Nat) (R' : List (Addr × Obj)) (h' : Heap) (tk' : Nat), StrsAre vs xs → vs.length = xs.length → (l, W.listOf vs.toArray n) ∈ R' → (∀ p ∈ R, p ∈ R') → (∀ p ∈ (x0, o0) :: (x1, o1) :: (x2, o2) :: (x3, o3) :: R, @LT.lt Nat _ p.1 l) → (∀ p ∈ R', p.1 ≠ x0) → (∀ p ∈ R', p.1 ≠ x1) → (∀ p ∈ R', p.1 ≠ x2) → (∀ p ∈ R', p.1 ≠ x3) → Fr h₀ L h' m → News h₀ L h' ((x0, o0) :: (x1, o1) :: (x2, o2) :: (x3, o3) :: R') → Q (.ref l) { s with heap := h', toks := tk' }) :
    wpAny (model PySem.Challenge.rw_rh0222_01.row.prog w) (ktrTop dp un gd cn cs L a ccd cl outer) (call (.ref f) [.ref q]) Q E s :=
  A w mean mg mb q ((x0, o0) :: (x1, o1) :: (x2, o2) :: (x3, o3) :: R) (hR.mono hs) dp un gd cn cs a ccd cl outer A₀ base h₀ L m s Q E B F X N T hk hd hu
    (fun r news' h' tk' F' N' ⟨l, vs, n, tl, e1, hv, hl, ab, sub⟩ => by
      subst e1
      refine ret l vs n (tl ++ R) h' tk' hv (StrsAre_len hv) (List.mem_append.mpr (.inl hl)) (fun p hp => List.mem_append.mpr (.inr hp)) (ab _ hl) (fun p hp => (List.mem_append.mp hp).elim (fun h => Nat.ne_of_gt (ab p h _ (List.Mem.head _))) (f0 p)) (fun p hp => (List.mem_append.mp hp).elim (fun h => Nat.ne_of_gt (ab p h _ (List.Mem.tail _ (List.Mem.head _)))) (f1 p)) (fun p hp => (List.mem_append.mp hp).elim (fun h => Nat.ne_of_gt (ab p h _ (List.Mem.tail _ (List.Mem.tail _ (List.Mem.head _))))) (f2 p)) (fun p hp => (List.mem_append.mp hp).elim (fun h => Nat.ne_of_gt (ab p h _ (List.Mem.tail _ (List.Mem.tail _ (List.Mem.tail _ (List.Mem.head _)))))) (f3 p)) F' fun p hp => N' p (sub p ?_)
      simp only [List.mem_cons, List.mem_append] at hp ⊢
      rcases hp with h | h | h | h | h | h <;> simp only [h, true_or, or_true])

theorem use_ask5 {R : List (Addr × Obj)} {x0 x1 x2 x3 x4 : Addr} {o0 o1 o2 o3 o4 : Obj} (A : Asks f t need xs) (B : Below A₀ base outer h₀) (F : Fr h₀ L s.heap m) (X : (hd.heap_39 w.params).In h₀) (N : News h₀ L s.heap ((x0, o0) :: (x1, o1) :: (x2, o2) :: (x3, o3) :: (x4, o4) :: R)) (T : Top hd.view_39 (looseW hd.view_39 []) mean mg mb h₀) (hk : cs.kind = .function)
    (hR : Rel news q t) (hs : ∀ p ∈ news, p ∈ (x0, o0) :: (x1, o1) :: (x2, o2) :: (x3, o3) :: (x4, o4) :: R) (f0 : ∀ p ∈ R, p.1 ≠ x0) (f1 : ∀ p ∈ R, p.1 ≠ x1) (f2 : ∀ p ∈ R, p.1 ≠ x2) (f3 : ∀ p ∈ R, p.1 ≠ x3) (f4 : ∀ p ∈ R, p.1 ≠ x4) (hd : dp + need < recursionLimit) (hu : un + 8 * need < cLine)
    (ret : ∀ (l : Addr) (vs : List Value) (n : Nat) (R' : List (Addr × Obj)) (h' : Heap) (tk' : Nat), StrsAre vs xs → vs.length = xs.length → (l, W.listOf vs.toArray n) ∈ R' → (∀ p ∈ R, p ∈ R') → (∀ p ∈ (x0, o0) :: (x1, o1) :: (x2, o2) :: (x3, o3) :: (x4, o4) :: R, @LT.lt Nat _ p.1 l) → (∀ p ∈ R', p.1 ≠ x0) → (∀ p ∈ R', p.1 ≠ x1) → (∀ p ∈ R', p.1 ≠ x2) → (∀ p ∈ R', p.1 ≠ x3) → (∀ p ∈ R', p.1 ≠ x4) → Fr h₀ L h' m → News h₀ L h' ((x0, o0) :: (x1, o1) :: (x2, o2) :: (x3, o3) :: (x4, o4) :: R') → Q (.ref l) { s with heap := h', toks := tk' }) :
    wpAny (model PySem.Challenge.rw_rh0222_01.row.prog w) (ktrTop dp un gd cn cs L a ccd cl outer) (call (.ref f) [.ref q]) Q E s :=
  A w mean mg mb q ((x0, o0) :: (x1, o1) :: (x2, o2) :: (x3, o3) :: (x4, o4) :: R) (hR.mono hs) dp un gd cn cs a ccd cl outer A₀ base h₀ L m s Q E B F X N T hk hd hu
    (fun r news' h' tk' F' N' ⟨l, vs, n, tl, e1, hv, hl, ab, sub⟩ => by
      subst e1
      refine ret l vs n (tl ++ R) h' tk' hv (StrsAre_len hv) (List.mem_append.mpr (.inl hl)) (fun p hp => List.mem_append.mpr (.inr hp)) (ab _ hl) (fun p hp => (List.mem_append.mp hp).elim (fun h => Nat.ne_of_gt (ab p h _ (List.Mem.head _))) (f0 p)) (fun p hp => (List.mem_append.mp hp).elim (fun h => Nat.ne_of_gt (ab p h _ (List.Mem.tail _ (List.Mem.head _)))) (f1 p)) (fun p hp => (List.mem_append.mp hp).elim (fun h => Nat.ne_of_gt (ab p h _ (List.Mem.tail _ (List.Mem.tail _ (List.Mem.head _))))) (f2 p)) (fun p hp => (List.mem_append.mp hp).elim (fun h => Nat.ne_of_gt (ab p h _ (List.Mem.tail _ (List.Mem.tail _ (List.Mem.tail _ (List.Mem.head _)))))) (f3 p)) (fun p hp => (List.mem_append.mp hp).elim (fun h => Nat.ne_of_gt (ab p h _ (List.Mem.tail _ (List.Mem.tail _ (List.Mem.tail _ (List.Mem.tail _ (List.Mem.head _))))))) (f4 p)) F' fun p hp => N' p (sub p ?_)
      simp only [List.mem_cons, List.mem_append] at hp ⊢
      rcases hp with h | h | h | h | h | h | h <;> simp only [h, true_or, or_true])

theorem StrsAre_app : ∀ {vs ws : List Value} {xs ys : List Str}, StrsAre vs xs → StrsAre ws ys → StrsAre (vs ++ ws) (xs ++ ys)
  | _, _, _, _, .nil, k => k
  | _, _, _, _, .cons y t h, k => .cons y t (StrsAre_app h k)
theorem tooLong_no {k : Nat} (h : k ≤ 5000) : Builtin.List.listTooLong k = false := by
  unfold Builtin.List.listTooLong
  simp only [decide_eq_false_iff_not, sizeLine_eq]
  omega
/-- found.extend(b), b a list of the ledger's -/
theorem my_extend {D b : Addr} {us vs : List Value} {k n2 : Nat} {g : Obj → List (Addr × Obj)} {Q : Value → Shared → Prop} {M : Around} (F : Fr h₀ L s.heap m) (N : News h₀ L s.heap news) (hb : (b, W.listOf vs.toArray n2) ∈ news)
    (U : UpdF D (W.listOf us.toArray k) news g) (hu : us.length ≤ 1000) (hv : vs.length ≤ 1000)
    (h : ∀ h' k', Fr h₀ L h' m → News h₀ L h' (g (W.listOf (us ++ vs).toArray k')) → Q .none { s with heap := h' }) : wpAny (model PySem.Challenge.rw_rh0222_01.row.prog w) M (call (.builtin "list.extend") [.ref D, .ref b]) Q E s := by
  obtain ⟨pre, post, e, eg, a, c⟩ := U.split
  have U' : ∀ o', Upd D (W.listOf us.toArray k) o' news (g o') := by
    intro o'
    rw [e, eg]
    clear e eg
    induction pre with
    | nil => exact .head c
    | cons p r ih => exact .tail (a p (.head _)) (ih fun q hq => a q (.tail _ hq))
  have hd : ¬(!us.toArray.isEmpty && Builtin.List.listTooLong (us.toArray.size + vs.toArray.size)) = true := by
    rw [tooLong_no (by simp only [List.size_toArray]; omega), Bool.and_false]
    exact Bool.false_ne_true
  by_cases hv0 : vs = []
  · subst hv0
    have U1 := U' (W.listOf us.toArray k)
    refine kxn_extend F N hb rfl U1 hd (by rw [sizeLine_eq]; simp only []; omega) (by rw [sizeLine_eq]; simp only [List.size_toArray]; omega) fun h' F' N' => h h' k F' ?_
    rw [List.append_nil]
    exact N'
  · exact kl_extend (l := us ++ vs) F N hb rfl (by simpa using hv0) (U' _) hd (by rw [sizeLine_eq]; simp only []; omega) (by rw [sizeLine_eq]; simp only [List.size_toArray]; omega) fun h' F' N' => h h' (k + 1) F' N'
/-- t[a:], t a tuple of the ledger's -/
theorem my_slice {value slice : PySem.Expr} {t : Addr} {n : Nat} {its zs : List Value} {u : Tok} {Q : Value → Shared → Prop} {M : Around} (F : Fr h₀ L s.heap m) (N : News h₀ L s.heap news) (hb : (t, ({ cls := .type "tuple", data := .seq its.toArray n } : Obj)) ∈ news) (ha : 1 ≤ its.length) (e : its.drop 1 = zs)
    (h : ∀ D h', Fr h₀ L h' m → News h₀ L h' ((D, tupO zs) :: news) → (∀ p ∈ news, p.1 < D) → Q (.ref D) { s with heap := h' })
    (hs : subscripted slice false (.ref t) (.ref s.heap.objs.size) = operate [.ref s.heap.objs.size, .ref t] (getItem (.ref t) (.ref s.heap.objs.size)))
    (hg : ∀ r, letTemporaryGo value (.ref t) r = pure ()) (hz : its.length ≤ sizeLine) :
    wpAny (model PySem.Challenge.rw_rh0222_01.row.prog w) M (subscriptTail value slice (.ref t) (.ref s.heap.objs.size)) Q E { s with heap := s.heap.push { cls := .type "slice", data := .fields #[.int 1 u, .none, .none] } } := by
  subst e
  exact slice_tuple_from (a := 1) (items := its.toArray) F N (N.isTup hb) (by decide) (by simpa using ha) (fun h' F' N' => h _ h' F' N' fun p hp => Nat.lt_succ_of_lt (Heap.lt_size (N p hp).1)) hs hg (by simpa using hz)
theorem my_isi {u : Addr} {tr : Tr} {news₀ : List (Addr × Obj)} {Q : Value → Shared → Prop} {M : Around} (N : News h₀ L s.heap news) (R : Rel news₀ u tr) (hs : ∀ p ∈ news₀, p ∈ news) (h : Q (.bool true) s) :
    wpAny (model PySem.Challenge.rw_rh0222_01.row.prog w) M (call (.builtin "isinstance") [.ref u, .type "tuple"]) Q E s := by
  obtain ⟨vs, hm⟩ := R.tup
  exact IsiPair.isTuple_tuple (h₀ := s.heap) ⟨_, N.get (hs _ hm), rfl, _, rfl⟩ (fun _ _ e => e) h
theorem unr_end1 {I : Addr} {o : Obj} {rest : (Str → Option Value) → List (Addr × Obj) → Prop} {s₁ : Shared} {h' : Heap} {tk : Nat} {m' : Str → Option Value} {news' : List (Addr × Obj)} (F : Fr h₀ L h' m') (N : News h₀ L h' ((I, o) :: news'))
    (off : ∀ p ∈ news', p.1 ≠ I) (r : rest m' news') : UnrEndW h₀ L s₁ [(I, o)] rest { s₁ with heap := h', toks := tk } :=
  ⟨h', tk, m', news', rfl, F, N, fun p hp q hq => by rw [List.mem_singleton.mp hq]; exact off p hp, r⟩

theorem unr_end2 {I : Addr} {o : Obj} {x : Addr × Obj} {rest : (Str → Option Value) → List (Addr × Obj) → Prop} {s₁ : Shared} {h' : Heap} {tk : Nat} {m' : Str → Option Value} {news' : List (Addr × Obj)} (F : Fr h₀ L h' m') (N : News h₀ L h' (x :: (I, o) :: news'))
    (off : ∀ p ∈ news', p.1 ≠ I) (r : rest m' news') : UnrEndW h₀ L s₁ [(I, o)] rest { s₁ with heap := h', toks := tk } := unr_end1 F (fun p hp => N p (List.mem_cons_of_mem _ hp)) off r

theorem my_add {x y : Addr} {vs ws : List Value} {n k : Nat} {Q : Value → Shared → Prop} {M : Around} (F : Fr h₀ L s.heap m) (N : News h₀ L s.heap news) (ha : (x, W.listOf vs.toArray n) ∈ news) (hb : (y, W.listOf ws.toArray k) ∈ news) (hv : vs.length ≤ 1000) (hw : ws.length ≤ 1000)
    (h : ∀ D h', Fr h₀ L h' m → News h₀ L h' ((D, W.listOf (vs ++ ws).toArray 0) :: news) → (∀ p ∈ news, p.1 < D) → Q (.ref D) { s with heap := h' }) :
    wpAny (model PySem.Challenge.rw_rh0222_01.row.prog w) M (binaryOp .Add (.ref x) (.ref y)) Q E s :=
  kmk_add_lit F N (N.isList ha) (N.isList hb) rfl h (by rw [sizeLine_eq]; show vs.length + ws.length ≤ _; omega)

theorem ask_end {l : Addr} {vs : List Value} {n : Nat} {news' : List (Addr × Obj)} {R : List (Addr × Obj)} {h' : Heap} {tks : Nat}
    (hret : ∀ (r : Value) (news' : List (Addr × Obj)) (h' : Heap) (tk' : Nat), Fr h₀ L h' m → News h₀ L h' news' → (∃ (l : Addr) (vs : List Value) (n : Nat) (tl : List (Addr × Obj)),
      r = .ref l ∧ StrsAre vs xs ∧ (l, W.listOf vs.toArray n) ∈ tl ∧ Above news tl ∧ ∀ p ∈ tl ++ news, p ∈ news') → Q r { s with heap := h', toks := tk' })
    (F : Fr h₀ L h' m) (N : News h₀ L h' news') (hl : (l, W.listOf vs.toArray n) ∈ news') (hv : StrsAre vs xs) (al : AllLt l R) (sl : ∀ x ∈ news, x ∈ R) (hs : ∀ x ∈ news, x ∈ news') : Q (.ref l) { s with heap := h', toks := tks } :=
  hret _ _ _ _ F N ⟨l, vs, n, [(l, W.listOf vs.toArray n)], rfl, hv, .head _, fun p hp q hq => by rw [List.mem_singleton.mp hp]; exact ltOf al q (sl q hq), fun p hp => by
    rcases List.mem_append.mp hp with hp | hp
    · rw [List.mem_singleton.mp hp]; exact hl
    · exact hs p hp⟩
end
end Mine

namespace Mine
set_option maxRecDepth 100000
section
variable {prog : Program} {w : World} {A : Around} {E : Value → Shared → Prop} {s : Shared}
theorem adjust_two (n : Nat) : Builtin.Slice.sliceAdjust none (some 2) 1 (n : Int) = ((0 : Int), ((min 2 n : Nat) : Int)) := by
  unfold Builtin.Slice.sliceAdjust
  have h1 : ¬ ((1 : Int) < 0) := by omega
  have h2 : ¬ ((2 : Int) < 0) := by omega
  simp only [h1, h2, if_false]
  congr 1
  omega
theorem places_two (n : Nat) : Builtin.Slice.slicePlaces 0 ((min 2 n : Nat) : Int) 1 = min 2 n := by
  unfold Builtin.Slice.slicePlaces
  have h1 : (1 : Int) > 0 := by omega
  simp only [h1, if_true, Int.ediv_one]
  split <;> omega
theorem sliceApplied_two {sl : Addr} {n : Nat} {u : Tok} {Q : Int × Int × Nat → Shared → Prop} (hs : s.heap.IsSliceOf sl .none (.int 2 u) .none) (h : Q ((0 : Int), 1, min 2 n) s) :
    wpAny (model prog w) A (Builtin.Slice.sliceApplied (.ref sl) (pure (n : Int))) Q E s := by
  obtain ⟨os, hos, hcs, hds⟩ := id hs
  unfold Builtin.Slice.sliceApplied Builtin.Slice.sliceFields
  refine wpAny_bind (wpAny_bind (wpAny_field hos hds (x := .none) rfl (wpAny_bind (wpAny_field hos hds (x := .int 2 u) rfl (wpAny_bind (wpAny_field hos hds (x := .none) rfl (wpAny_pure ?_)))))))
  refine wpAny_bind (slicePart_none ?_)
  show wpAny _ _ (if ((1 : Int) == 0) = true then _ else _) _ _ s
  rw [if_neg (by decide)]
  refine wpAny_bind (slicePart_none (wpAny_bind (slicePart_int (wpAny_bind (wpAny_pure ?_)))))
  show wpAny _ _ (match Builtin.Slice.sliceAdjust none (some (2 : Int)) 1 (n : Int) with | (lo, hi) => pure (lo, (1 : Int), Builtin.Slice.slicePlaces lo hi 1)) _ _ s
  rw [adjust_two n]
  show wpAny _ _ (pure ((0 : Int), (1 : Int), Builtin.Slice.slicePlaces (0 : Int) ((min 2 n : Nat) : Int) 1)) _ _ s
  rw [places_two n]
  exact wpAny_pure h
theorem pick_two (xs : Array Value) (h : 2 ≤ xs.size) : ((List.range (min 2 xs.size)).filterMap fun (k : Nat) => xs[((0 : Int) + (k : Int) * 1).toNat]?).toArray = (xs.toList.take 2).toArray := by
  have e : min 2 xs.size = 2 := by omega
  rw [e]
  have e2 : List.range 2 = [0, 1] := rfl
  rw [e2]
  obtain ⟨l⟩ := xs
  simp only [List.size_toArray] at h
  match l, h with
  | a :: b :: r, _ => rfl
theorem getItem_two_whole {t sl : Addr} {items : Array Value} {u : Tok} {Q : Value → Shared → Prop} (ht : IsTup s.heap t items) (hs : s.heap.IsSliceOf sl .none (.int 2 u) .none) (ha : items.size ≤ 2) (h : Q (.ref t) s) :
    wpAny (model prog w) A (getItem (.ref t) (.ref sl)) Q E s := by
  obtain ⟨os, hos, hcs, hds⟩ := id hs
  have hTs : s.TypeIs (.ref sl) "slice" := ⟨os, hos, hcs⟩
  unfold getItem
  try with_reducible refine wpAny_holding ?_
  first | refine wpAny_bind (wpAny_pure ?_) | skip
  refine wpAny_bind (wpAny_sequenceKey ht.typeIs (by decide) ?_)
  refine wpAny_bind (wpAny_callSpecial?_slot (name := Str.ofString "__getitem__") ht.typeIs slot_tuple_getitem
    (wpAny_call_entry slot_tuple_getitem ht.typeIs entry_tuple_getitem ?_ (args_tuple_getitem _ _)))
  show wpAny _ _ (Builtin.Tuple.tupleItemsOf (.ref t) >>= _) _ _ s
  refine wpAny_bind (tupleItemsOf_ ht ?_)
  refine wpAny_bind (wpAny_typeOf hTs ?_)
  rw [if_pos (by decide)]
  refine wpAny_bind (sliceApplied_two hs ?_)
  have hyes : ((0 : Int) == 0 && (1 : Int) == 1 && (min 2 items.size) == items.size) = true := by
    have : min 2 items.size = items.size := by omega
    rw [this]; simp
  show wpAny _ _ (if ((0 : Int) == 0 && (1 : Int) == 1 && (min 2 items.size) == items.size) = true then _ else _) _ _ s
  rw [if_pos hyes]
  refine wpAny_bind (m := Builtin.Tuple.tupleIsExact _) ?_
  unfold Builtin.Tuple.tupleIsExact
  refine wpAny_bind (wpAny_typeOf ht.typeIs (wpAny_pure ?_))
  rw [if_pos (by decide)]
  exact wpAny_bind (wpAny_rule (wpAny_pure ⟨_, rfl, wpAny_pure h⟩))
theorem getItem_two_cut {t sl : Addr} {items : Array Value} {u : Tok} {Q : Value → Shared → Prop} (ht : IsTup s.heap t items) (hs : s.heap.IsSliceOf sl .none (.int 2 u) .none) (ha : 3 ≤ items.size) (hz : items.size ≤ sizeLine)
    (h : Q (.ref s.heap.objs.size) { s with heap := s.heap.push { cls := .type "tuple", data := .seq (items.toList.take 2).toArray } }) :
    wpAny (model prog w) A (getItem (.ref t) (.ref sl)) Q E s := by
  have hcut : sizeOk (.seq (items.toList.take 2).toArray) := by
    show (items.toList.take 2).toArray.size ≤ sizeLine
    rw [List.size_toArray, List.length_take, Array.length_toList]
    omega
  obtain ⟨os, hos, hcs, hds⟩ := id hs
  have hTs : s.TypeIs (.ref sl) "slice" := ⟨os, hos, hcs⟩
  unfold getItem
  try with_reducible refine wpAny_holding ?_
  first | refine wpAny_bind (wpAny_pure ?_) | skip
  refine wpAny_bind (wpAny_sequenceKey ht.typeIs (by decide) ?_)
  refine wpAny_bind (wpAny_callSpecial?_slot (name := Str.ofString "__getitem__") ht.typeIs slot_tuple_getitem
    (wpAny_call_entry slot_tuple_getitem ht.typeIs entry_tuple_getitem ?_ (args_tuple_getitem _ _)))
  show wpAny _ _ (Builtin.Tuple.tupleItemsOf (.ref t) >>= _) _ _ s
  refine wpAny_bind (tupleItemsOf_ ht ?_)
  refine wpAny_bind (wpAny_typeOf hTs ?_)
  rw [if_pos (by decide)]
  refine wpAny_bind (sliceApplied_two hs ?_)
  have hno : ¬ (((0 : Int) == 0 && (1 : Int) == 1 && (min 2 items.size) == items.size) = true) := by
    have : ((min 2 items.size) == items.size) = false := by rw [beq_eq_false_iff_ne]; omega
    rw [this]; simp
  show wpAny _ _ (if ((0 : Int) == 0 && (1 : Int) == 1 && (min 2 items.size) == items.size) = true then _ else _) _ _ s
  rw [if_neg hno, pick_two items (by omega)]
  first
    | exact wpAny_bind (m := Builtin.Tuple.tupleExact _) (wpAny_newObj_type (wpAny_pure ⟨_, rfl, wpAny_pure h⟩) hcut)
    | exact wpAny_bind (m := Builtin.Tuple.tupleExact _) (wpAny_newObj_type (wpAny_bind (wpAny_pure (wpAny_pure ⟨_, rfl, wpAny_pure h⟩))) hcut)
    | exact wpAny_bind (wpAny_bind (m := Builtin.Tuple.tupleExact _) (wpAny_newObj_type (wpAny_pure (wpAny_pure ⟨_, rfl, wpAny_pure h⟩)) hcut))
    | exact wpAny_bind (wpAny_bind (m := Builtin.Tuple.tupleExact _) (wpAny_newObj_type (wpAny_pure ⟨_, rfl, wpAny_pure h⟩) hcut))
end
section
variable {w : World} {M : Around} {h₀ : Heap} {L : Addr} {m : Str → Option Value} {s : Shared} {Q : Value → Shared → Prop} {E : Value → Shared → Prop} {news : List (Addr × Obj)}
/-- t[:2] of a short tuple: the very tuple -/
theorem my_two_whole {value slice : PySem.Expr} {t : Addr} {n : Nat} {its : List Value} {u : Tok} (F : Fr h₀ L s.heap m) (N : News h₀ L s.heap news) (hb : (t, ({ cls := .type "tuple", data := .seq its.toArray n } : Obj)) ∈ news) (ha : its.length ≤ 2)
    (h : ∀ h', Fr h₀ L h' m → News h₀ L h' news → Q (.ref t) { s with heap := h' })
    (hs : subscripted slice false (.ref t) (.ref s.heap.objs.size) = operate [.ref s.heap.objs.size, .ref t] (getItem (.ref t) (.ref s.heap.objs.size)))
    (hg : ∀ r, letTemporaryGo value (.ref t) r = pure ()) :
    wpAny (model PySem.Challenge.rw_rh0222_01.row.prog w) M (subscriptTail value slice (.ref t) (.ref s.heap.objs.size)) Q E { s with heap := s.heap.push { cls := .type "slice", data := .fields #[.none, .int 2 u, .none] } } := by
  have ht' : IsTup (s.heap.push { cls := .type "slice", data := .fields #[.none, .int 2 u, .none] }) t its.toArray := (N.isTup hb).keeps fun _ _ e => Heap.get?_push_of_some _ e
  exact subscriptTail_ops (s := { s with heap := s.heap.push { cls := .type "slice", data := .fields #[.none, .int 2 u, .none] } }) ht'.typeIs slot_tuple_getitem.lookup
    (getItem_two_whole ht' (Heap.IsSliceOf.new ..) (by simpa using ha) (h _ (F.push _) (N.grown fun _ _ e => Heap.get?_push_of_some _ e))) hs hg
/-- t[:2] of a longer one: a new pair -/
theorem my_two_cut {value slice : PySem.Expr} {t : Addr} {n : Nat} {its zs : List Value} {u : Tok} (F : Fr h₀ L s.heap m) (N : News h₀ L s.heap news) (hb : (t, ({ cls := .type "tuple", data := .seq its.toArray n } : Obj)) ∈ news) (ha : 3 ≤ its.length) (e : its.take 2 = zs)
    (h : ∀ D h', Fr h₀ L h' m → News h₀ L h' ((D, tupO zs) :: news) → (∀ p ∈ news, p.1 < D) → Q (.ref D) { s with heap := h' })
    (hs : subscripted slice false (.ref t) (.ref s.heap.objs.size) = operate [.ref s.heap.objs.size, .ref t] (getItem (.ref t) (.ref s.heap.objs.size)))
    (hg : ∀ r, letTemporaryGo value (.ref t) r = pure ()) (hz : its.length ≤ sizeLine) :
    wpAny (model PySem.Challenge.rw_rh0222_01.row.prog w) M (subscriptTail value slice (.ref t) (.ref s.heap.objs.size)) Q E { s with heap := s.heap.push { cls := .type "slice", data := .fields #[.none, .int 2 u, .none] } } := by
  subst e
  have ht' : IsTup (s.heap.push { cls := .type "slice", data := .fields #[.none, .int 2 u, .none] }) t its.toArray := (N.isTup hb).keeps fun _ _ e => Heap.get?_push_of_some _ e
  refine subscriptTail_ops (s := { s with heap := s.heap.push { cls := .type "slice", data := .fields #[.none, .int 2 u, .none] } }) ht'.typeIs slot_tuple_getitem.lookup
    (getItem_two_cut ht' (Heap.IsSliceOf.new ..) (by simpa using ha) (by simpa using hz) ?_) hs hg
  have N1 := News.push (F.push { cls := .type "slice", data := .fields #[.none, .int 2 u, .none] }) (N.grown fun _ _ e => Heap.get?_push_of_some _ e) { cls := .type "tuple", data := .seq (its.take 2).toArray }
  rw [Heap.size_push] at N1
  show Q (.ref (s.heap.push _).objs.size) _
  rw [Heap.size_push]
  exact h _ _ ((F.push _).push _) N1 fun p hp => Nat.lt_succ_of_lt (Heap.lt_size (N p hp).1)
end
end Mine

namespace Mine
set_option maxRecDepth 100000


/-- the contract of _law_behind -/
def Beh (t : Tr) (need : Nat) (P : List (Addr × Obj) → List Value → Prop) : Prop :=
  ∀ (w : World) (mean : ExcName → Option Value) (mg mb : Str → Option Value) (q : Addr) (news : List (Addr × Obj)), Rel news q t →
    Does w mean mg mb 54 need [.ref q] news (fun r news' => ∃ (l : Addr) (vs : List Value) (n : Nat) (tl : List (Addr × Obj)),
      r = .ref l ∧ P news vs ∧ (l, W.listOf vs.toArray n) ∈ tl ∧ Above news tl ∧ ∀ p ∈ tl ++ news, p ∈ news')
abbrev BehN (t : Tr) : Prop := Beh t 12 fun _ vs => vs = []
abbrev BehY (a : Tr) : Prop := Beh (.una .dol a) 12 fun news vs => ∃ u, vs = [.ref u] ∧ Rel news u a
section
variable {w : World} {mean : ExcName → Option Value} {mg mb : Str → Option Value} {dp un : Nat} {gd : Option (List Code)} {cn : Str} {cs : Scope} {a : Addr} {ccd : Value} {cl : List (Str × Addr)} {outer : List Env} {A₀ : Around} {base h₀ : Heap} {L : Addr} {m : Str → Option Value} {s : Shared} {Q E : Value → Shared → Prop}
  {q : Addr} {t : Tr} {news : List (Addr × Obj)} {P : List (Addr × Obj) → List Value → Prop}

theorem use_behN {R : List (Addr × Obj)} (A : BehN t) (B : Below A₀ base outer h₀) (F : Fr h₀ L s.heap m) (X : (hd.heap_39 w.params).In h₀) (N : News h₀ L s.heap R) (T : Top hd.view_39 (looseW hd.view_39 []) mean mg mb h₀) (hk : cs.kind = .function)
    (hR : Rel news q t) (hs : ∀ p ∈ news, p ∈ R) (hd : dp + 12 < recursionLimit) (hu : un + 8 * 12 < cLine)
    (ret : ∀ (l : Addr) (n : Nat) (R' : List (Addr × Obj)) (h' : Heap) (tk' : Nat), (l, W.listOf ([] : List Value).toArray n) ∈ R' → (∀ p ∈ R, p ∈ R') → (∀ p ∈ R, @LT.lt Nat _ p.1 l) → Fr h₀ L h' m → News h₀ L h' R' → Q (.ref l) { s with heap := h', toks := tk' }) :
    wpAny (model PySem.Challenge.rw_rh0222_01.row.prog w) (ktrTop dp un gd cn cs L a ccd cl outer) (call (.ref 54) [.ref q]) Q E s :=
  A w mean mg mb q R (hR.mono hs) dp un gd cn cs a ccd cl outer A₀ base h₀ L m s Q E B F X N T hk hd hu
    (fun r news' h' tk' F' N' ⟨l, vs, n, tl, e1, hv, hl, ab, sub⟩ => by
      subst e1; subst hv
      exact ret l n (tl ++ R) h' tk' (List.mem_append.mpr (.inl hl)) (fun p hp => List.mem_append.mpr (.inr hp)) (ab _ hl) F' fun p hp => N' p (sub p hp))
theorem use_behY {R : List (Addr × Obj)} {c : Tr} (A : BehY c) (B : Below A₀ base outer h₀) (F : Fr h₀ L s.heap m) (X : (hd.heap_39 w.params).In h₀) (N : News h₀ L s.heap R) (T : Top hd.view_39 (looseW hd.view_39 []) mean mg mb h₀) (hk : cs.kind = .function)
    (hR : Rel news q (.una .dol c)) (hs : ∀ p ∈ news, p ∈ R) (hd : dp + 12 < recursionLimit) (hu : un + 8 * 12 < cLine)
    (ret : ∀ (l u : Addr) (n : Nat) (R' : List (Addr × Obj)) (h' : Heap) (tk' : Nat), Rel R' u c → (l, W.listOf [Value.ref u].toArray n) ∈ R' → (∀ p ∈ R, p ∈ R') → (∀ p ∈ R, @LT.lt Nat _ p.1 l) → Fr h₀ L h' m → News h₀ L h' R' → Q (.ref l) { s with heap := h', toks := tk' }) :
    wpAny (model PySem.Challenge.rw_rh0222_01.row.prog w) (ktrTop dp un gd cn cs L a ccd cl outer) (call (.ref 54) [.ref q]) Q E s :=
  A w mean mg mb q R (hR.mono hs) dp un gd cn cs a ccd cl outer A₀ base h₀ L m s Q E B F X N T hk hd hu
    (fun r news' h' tk' F' N' ⟨l, vs, n, tl, e1, ⟨u, e2, hu⟩, hl, ab, sub⟩ => by
      subst e1; subst e2
      exact ret l u n (tl ++ R) h' tk' (hu.mono fun p hp => List.mem_append.mpr (.inr hp)) (List.mem_append.mpr (.inl hl)) (fun p hp => List.mem_append.mpr (.inr hp)) (ab _ hl) F' fun p hp => N' p (sub p hp))
theorem behN_end {l : Addr} {n : Nat} {news' : List (Addr × Obj)} {R : List (Addr × Obj)} {h' : Heap} {tks : Nat}
    (hret : ∀ (r : Value) (news' : List (Addr × Obj)) (h' : Heap) (tk' : Nat), Fr h₀ L h' m → News h₀ L h' news' → (∃ (l : Addr) (vs : List Value) (n : Nat) (tl : List (Addr × Obj)),
      r = .ref l ∧ vs = [] ∧ (l, W.listOf vs.toArray n) ∈ tl ∧ Above news tl ∧ ∀ p ∈ tl ++ news, p ∈ news') → Q r { s with heap := h', toks := tk' })
    (F : Fr h₀ L h' m) (N : News h₀ L h' news') (hl : (l, W.listOf ([] : List Value).toArray n) ∈ news') (al : AllLt l R) (sl : ∀ x ∈ news, x ∈ R) (hs : ∀ x ∈ news, x ∈ news') : Q (.ref l) { s with heap := h', toks := tks } :=
  hret _ _ _ _ F N ⟨l, [], n, [(l, W.listOf ([] : List Value).toArray n)], rfl, rfl, .head _, fun p hp q hq => by rw [List.mem_singleton.mp hp]; exact ltOf al q (sl q hq), fun p hp => by
    rcases List.mem_append.mp hp with hp | hp
    · rw [List.mem_singleton.mp hp]; exact hl
    · exact hs p hp⟩
theorem behY_end {l u : Addr} {c : Tr} {n : Nat} {news' : List (Addr × Obj)} {R : List (Addr × Obj)} {h' : Heap} {tks : Nat}
    (hret : ∀ (r : Value) (news' : List (Addr × Obj)) (h' : Heap) (tk' : Nat), Fr h₀ L h' m → News h₀ L h' news' → (∃ (l : Addr) (vs : List Value) (n : Nat) (tl : List (Addr × Obj)),
      r = .ref l ∧ (∃ u, vs = [.ref u] ∧ Rel news u c) ∧ (l, W.listOf vs.toArray n) ∈ tl ∧ Above news tl ∧ ∀ p ∈ tl ++ news, p ∈ news') → Q r { s with heap := h', toks := tk' })
    (F : Fr h₀ L h' m) (N : News h₀ L h' news') (hl : (l, W.listOf [Value.ref u].toArray n) ∈ news') (hv : Rel news u c) (al : AllLt l R) (sl : ∀ x ∈ news, x ∈ R) (hs : ∀ x ∈ news, x ∈ news') : Q (.ref l) { s with heap := h', toks := tks } :=
  hret _ _ _ _ F N ⟨l, [.ref u], n, [(l, W.listOf [Value.ref u].toArray n)], rfl, ⟨u, rfl, hv⟩, .head _, fun p hp q hq => by rw [List.mem_singleton.mp hp]; exact ltOf al q (sl q hq), fun p hp => by
    rcases List.mem_append.mp hp with hp | hp
    · rw [List.mem_singleton.mp hp]; exact hl
    · exact hs p hp⟩
end
end Mine

namespace Mine
set_option maxRecDepth 100000
open PySem.SeqAt PySem.MeetsSeq PySem.MeetsSeq2 PySem.MeetsSeq3 PySem.SeqRoads2 PySem.Spec PySem.AutoSeq1 in
theorem tuple_eq_first (l b : Addr) (items items2 : Array Value) (n n2 : Nat) (dd dd2 : Option Addr) (sl sl2 : Array (Option Value)) (x y : Str) (tx ty : Tok) (r1 r2 : List Value) (h1 : items.toList = .str x tx :: r1) (h2 : items2.toList = .str y ty :: r2) (hne : (x == y) = false) :
    Meets (Builtin.«tuple.__eq__» ⟨[.ref l, .ref b], []⟩)
      (fun A R s => s.heap.get? l = some { cls := .type "tuple", dict := dd, data := .seq items n, slots := sl } ∧ s.heap.get? b = some { cls := .type "tuple", dict := dd2, data := .seq items2 n2, slots := sl2 } ∧
        R (.ok (.ret (.bool false))) s) :=
  .of_wp fun prog w A R s h => by
    obtain ⟨hp, g, d, tk, os⟩ := s; obtain ⟨hl, hb, h⟩ := h
    have f2 := AutoSeq1.sub_tuple_tuple
    wp_walk using wpAny_loadPart' hl, wpAny_loadPart' hb, wpAny_forIn_list _ (fun rest b s' => b.1 = none ∧ s' = ⟨hp, g, d, tk, os⟩ ∧ ∃ r, rest = (Value.str x tx, Value.str y ty) :: r) _
    case turn =>
      rintro ⟨u, v⟩ rest b s' ⟨hb', rfl, r, hz⟩
      injection hz with hz hr
      injection hz with hu hv
      subst hu hv
      refine wpAny_bind (EqAt.str_str x tx y ty prog w _ _ ?_)
      rw [hne]
      wp_walk
      exact ⟨_, rfl, h⟩
    case fin =>
      rintro ⟨b1, b2⟩ s' ⟨hb', rfl, r, hz⟩
      cases hz
    case h =>
      refine ⟨rfl, rfl, r1.zip r2, ?_⟩
      rw [h1, h2]
      rfl

section
open PySem.SeqAt
variable {w : World} {A : Around} {h₀ : Heap} {L : Addr} {s : Shared} {Q : Value → Shared → Prop} {E : Value → Shared → Prop} {news : List (Addr × Obj)} {l b : Addr} {n n2 : Nat}
theorem my_eq_first {x y : Str} {tx ty : Tok} {r1 r2 : List Value} (N : News h₀ L s.heap news) (ha : (l, ({ cls := .type "tuple", data := .seq (Value.str x tx :: r1).toArray n } : Obj)) ∈ news) (hb : (b, ({ cls := .type "tuple", data := .seq (Value.str y ty :: r2).toArray n2 } : Obj)) ∈ news) (hne : (x == y) = false) (hu : A.units < cLine)
    (h : Q (.bool false) s) : wpAny (model PySem.Challenge.rw_rh0222_01.row.prog w) A (compareOp .Eq (.ref l) (.ref b)) Q E s :=
  richCompare_meets_room (op := .Eq) ⟨_, N.get ha, rfl⟩ ⟨_, N.get hb, rfl⟩ F.slot_tuple_eq F.entry_tuple_eq (F.args_tuple_eq_2 _ _) (tuple_eq_first l b _ _ n n2 none none #[] #[] x y tx ty r1 r2 rfl rfl hne)
    ⟨N.get ha, N.get hb, show Value.bool false ≠ Value.notImplemented ∧ Q (.bool false) s from ⟨(fun x => nomatch x), h⟩⟩ hu
theorem my_eq_pair {k : Bool} {x y x' : Str} {tx ty tx' ty' : Tok} (N : News h₀ L s.heap news) (ha : (l, ({ cls := .type "tuple", data := .seq [Value.str x tx, Value.str x' tx'].toArray n } : Obj)) ∈ news) (hb : (b, ({ cls := .type "tuple", data := .seq [Value.str x ty, Value.str y ty'].toArray n2 } : Obj)) ∈ news) (hk : (x' == y) = k) (hu : A.units < cLine)
    (h : Q (.bool k) s) : wpAny (model PySem.Challenge.rw_rh0222_01.row.prog w) A (compareOp .Eq (.ref l) (.ref b)) Q E s := by
  refine eq_tupleAt (e := fun j => if j = 0 then true else k) ⟨_, N.get ha, rfl, n, rfl⟩ ⟨_, N.get hb, rfl, n2, rfl⟩ hu (fun j h1 h2 => ?_) (by cases k <;> exact h)
  have h1' : j < 2 := h1
  match j, h1' with
  | 0, _ =>
    have e : (x == x) = true := beq_self_eq_true x
    have g := EqAt.str_str (A := A.in1) (s := s) x tx x ty
    rw [e] at g
    exact g
  | 1, _ =>
    have g := EqAt.str_str (A := A.in1) (s := s) x' tx' y ty'
    rw [hk] at g
    exact g
theorem strs_at : ∀ {vs ws : List Value} {xs : List Str}, StrsAre vs xs → StrsAre ws xs → ∀ j (h1 : j < vs.length) (h2 : j < ws.length), EqAt A.in1 s vs[j] ws[j] true
  | _, _, _, .nil, .nil, _, h1, _ => absurd h1 (Nat.not_lt_zero _)
  | _, _, _, .cons y t h, .cons _ t' k, 0, _, _ => by
    have g := EqAt.str_str (A := A.in1) (s := s) y t y t'
    rw [beq_self_eq_true y] at g
    exact g
  | _, _, _, .cons y t h, .cons _ t' k, j + 1, h1, h2 => strs_at h k j (Nat.lt_of_succ_lt_succ h1) (Nat.lt_of_succ_lt_succ h2)
theorem all_true (n : Nat) : (List.range n).all (fun _ => true) = true := by simp
theorem my_eq_lists {vs ws : List Value} {xs : List Str} (N : News h₀ L s.heap news) (ha : (l, W.listOf vs.toArray n) ∈ news) (hb : (b, W.listOf ws.toArray n2) ∈ news) (hv : StrsAre vs xs) (hw : StrsAre ws xs) (hu : A.units < cLine)
    (h : Q (.bool true) s) : wpAny (model PySem.Challenge.rw_rh0222_01.row.prog w) A (compareOp .Eq (.ref l) (.ref b)) Q E s :=
  eq_listAt (e := fun _ => true) (N.isList ha) (N.isList hb) (by simp [StrsAre_len hv, StrsAre_len hw]) hu (fun j h1 h2 => by simpa using strs_at hv hw j (by simpa using h1) (by simpa using h2)) (by rw [all_true]; exact h)
theorem my_ne_lists {vs ws : List Value} {xs : List Str} (N : News h₀ L s.heap news) (ha : (l, W.listOf vs.toArray n) ∈ news) (hb : (b, W.listOf ws.toArray n2) ∈ news) (hv : StrsAre vs xs) (hw : StrsAre ws xs) (hu : A.units < cLine)
    (h : Q (.bool false) s) : wpAny (model PySem.Challenge.rw_rh0222_01.row.prog w) A (compareOp .NotEq (.ref l) (.ref b)) Q E s := by
  have R := RcNeAt.lists (A := A) (s := s) (e := fun _ => true) (N.isList ha) (N.isList hb) (by simp [StrsAre_len hv, StrsAre_len hw]) hu (fun j h1 h2 => by simpa using strs_at hv hw j (by simpa using h1) (by simpa using h2))
  rw [all_true] at R
  exact R _ w E Q h
end
end Mine

namespace Mine
set_option maxRecDepth 100000

local macro_rules | `(tactic| walk_at "ite") => `(tactic| (k_here; first | (with_reducible refine' PySem.W.ite_pos ?c ?_; (case c => with_reducible assumption)) | (with_reducible refine' PySem.W.ite_neg ?c ?_; (case c => with_reducible exact ite_sure (by with_reducible assumption)))))
local macro_rules | `(tactic| walk_at "ite") => `(tactic| (k_closed; first | (with_reducible refine' PySem.W.ite_pos ?c ?_; (case c => k_dflt decide)) | (with_reducible refine' PySem.W.ite_neg ?c ?_; (case c => k_dflt decide))))
local macro_rules | `(tactic| k_all) => `(tactic| assumption)
local macro_rules | `(tactic| is_list) => `(tactic| exact News.isList (by k_asm) (by k_mem))
local macro_rules | `(tactic| k_mem) => `(tactic| ((repeat (first | with_reducible assumption | with_reducible exact List.mem_cons_self | with_reducible refine List.mem_cons_of_mem _ ?_ | with_reducible refine (show ∀ p ∈ _, p ∈ _ by with_reducible assumption) _ ?_)); done))
local macro_rules | `(tactic| walk_at "newTuple") => `(tactic| (k_here; k_dflt (refine' kup_newTuple ?F ?N ?_ ?z; (case F => k_asm); (case N => k_asm); (case z => kmk_size)); intro D' h' F' N' l1; (try k_lt l1); (try k_sweep)))
local macro_rules | `(tactic| walk_at "call builtin:isinstance") => `(tactic| (k_here; (with_reducible show wpAny _ _ (call _ [Value.ref _, Value.type _]) _ _ _); k_dflt (refine' my_isi ?N ?R ?s ?_; (case N => k_asm); (case R => with_reducible assumption); (case s => intro p hp; k_mem))))
local macro_rules | `(tactic| walk_at "subscriptTail Name Slice ref ref") => `(tactic| (k_here; (with_reducible show wpAny _ _ (subscriptTail _ (PySem.Expr.Slice _ _ none _) (Value.ref _) (Value.ref _)) _ _ _); k_dflt (refine' my_slice ?F ?N ?b ?a2 ?e ?_ ?s ?g ?z; (case F => k_asm); (case N => k_asm); (case b => k_mem); (case a2 => exact Nat.le_of_ble_eq_true rfl); (case e => exact rfl); (case s => with_unfolding_all rfl); (case g => kmk_pure); (case z => kmk_size)); intro D' h' F' N' l1; (try k_lt l1); (try k_sweep)))
local macro_rules | `(tactic| walk_at "exec For") => `(tactic| (k_here; (rename Fr _ _ _ _ => lF'); (with_unfolding_all refine' For_turns lF' ?_; k_whole)))
local macro_rules | `(tactic| walk_at "pyIter ref") => `(tactic| (k_here; (with_reducible show wpAny _ _ (pyIter (Value.ref _)) (fun it s₂ => TurnsAt _ _ _ _ _ _ _ _ _ it s₂) _ _); (with_unfolding_all refine' iter_tupTurns ?h ?F ?N ?m ?c ?d ?_; (case h => rfl); (case F => k_asm); (case N => k_asm); (case m => k_mem); (case c => rfl); (case d => rfl)); intro i' l1; (try k_lt l1)))
local macro_rules | `(tactic| walk_at "pyIter ref") => `(tactic| (k_here; (with_reducible show wpAny _ _ (pyIter (Value.ref _)) (fun it s₂ => TurnsAt _ _ _ _ _ _ _ _ _ it s₂) _ _); (with_unfolding_all refine' iter_listTurns ?h ?F ?N ?m ?c ?d ?_; (case h => rfl); (case F => k_asm); (case N => k_asm); (case m => k_mem); (case c => rfl); (case d => rfl)); intro i' l1; (try k_lt l1)))
local macro_rules | `(tactic| walk_at "UnrEndW") => `(tactic| (k_dflt (first | refine unr_end1 (by k_asm) (by k_asm) (by k_all) ⟨by k_subL, ?_⟩ | refine unr_end2 (by k_asm) (by k_asm) (by k_all) ⟨by k_subL, ?_⟩)))
local macro_rules | `(tactic| walk_at "call builtin:list.extend") => `(tactic| (k_here; (with_reducible show wpAny _ _ (call (Value.builtin _) [Value.ref _, Value.ref _]) _ _ _); k_dflt (refine' my_extend ?F ?N ?b ?U ?u ?v ?_; (case F => k_asm); (case N => k_asm); (case b => k_mem); (case U => k_updF); (case u => (try simp only [List.length_append, List.length_nil]); omega); (case v => omega)); intro h' k' F' N'; (try dsimp only at N'); (try k_sweep)))
local macro_rules | `(tactic| walk_at "binaryOp Add ref ref") => `(tactic| (k_here; k_dflt (refine' my_add ?F ?N ?a ?b ?v ?w ?_; (case F => k_asm); (case N => k_asm); (case a => k_mem); (case b => k_mem); (case v => (try simp only [List.length_append, List.length_cons, List.length_nil]); omega); (case w => (try simp only [List.length_append, List.length_cons, List.length_nil]); omega)); intro D' h' F' N' l1; (try k_lt l1)))
local macro_rules | `(tactic| walk_at "exec For Name Name cons nil") => `(tactic| (k_here; (rename Fr _ _ _ _ => lF'); (with_unfolding_all refine' For_turns lF' ?_; k_whole)))
local macro_rules | `(tactic| walk_at "call type:list") => `(tactic| (k_here; (with_reducible show wpAny _ _ (call (Value.type _) [Value.ref _]) _ _ _); k_dflt (refine' kup_listOfT ?F ?N ?b ?e ?_ ?z; (case F => k_asm); (case N => k_asm); (case b => k_mem); (case e => exact rfl); (case z => kl_room)); intro D' c' h' F' N' l1; (try k_lt l1); (try k_sweep)))
local macro_rules | `(tactic| walk_at "subscriptTail Name Slice ref ref") => `(tactic| (k_here; (with_reducible show wpAny _ _ (subscriptTail _ (PySem.Expr.Slice none _ none _) (Value.ref _) (Value.ref _)) _ _ _); k_dflt (refine' my_two_cut ?F ?N ?b ?a2 ?e ?_ ?s ?g ?z; (case F => k_asm); (case N => k_asm); (case b => k_mem); (case a2 => exact Nat.le_of_ble_eq_true rfl); (case e => exact rfl); (case s => with_unfolding_all rfl); (case g => kmk_pure); (case z => kmk_size)); intro D' h' F' N' l1; (try k_lt l1); (try k_sweep)))
local macro_rules | `(tactic| walk_at "subscriptTail Name Slice ref ref") => `(tactic| (k_here; (with_reducible show wpAny _ _ (subscriptTail _ (PySem.Expr.Slice none _ none _) (Value.ref _) (Value.ref _)) _ _ _); k_dflt (refine' my_two_whole ?F ?N ?b ?a2 ?_ ?s ?g; (case F => k_asm); (case N => k_asm); (case b => k_mem); (case a2 => exact Nat.le_of_ble_eq_true rfl); (case s => with_unfolding_all rfl); (case g => kmk_pure)); intro h' F' N'; (try k_sweep)))
local macro_rules | `(tactic| walk_at "compareOp Eq ref ref") => `(tactic| (k_here; k_dflt (refine' my_eq_pair ?N ?a ?b ?k ?u ?_; (case N => k_asm); (case a => k_mem); (case b => k_mem); (case k => first | with_reducible assumption | exact beq_self_eq_true _ | decide +kernel); (case u => ktr_units))))
local macro_rules | `(tactic| walk_at "compareOp Eq ref ref") => `(tactic| (k_here; k_dflt (refine' my_eq_first ?N ?a ?b ?k ?u ?_; (case N => k_asm); (case a => k_mem); (case b => k_mem); (case k => decide +kernel); (case u => ktr_units))))
set_option maxHeartbeats 8000000 in
theorem a_name {x : Str} : Asks 21 (.name x) 3 [x] := by
  intro w mean mg mb q news hR
  unfold Does
  w_top off
  k_fill
  intro dp un gd cn cs a₀ ccd cl outer A₀ base h₀ L m s Q E B F X N T hk hroom hun hret
  cases hR
  rename_i hm
  w_strict (
    refine wpAny_call ?_
    k_dflt ktr_enter
    repeat' (first
      | ((with_reducible show wpAny _ _ (call (Value.ref _) _) _ _ _); first
        | (k_dflt (refine' use_ask3 ?kA ?k1 ?k2 ?k3 ?k4 ?k5 ?kK ?hR ?hs ?f0 ?f1 ?f2 ?kd ?ku ?_; (case k1 => k_asm); (case k2 => k_asm); (case k3 => k_asm); (case k4 => k_asm); (case k5 => k_asm); (case kK => first | exact rfl | assumption); (case hR => with_reducible assumption); (case kA => with_reducible assumption); (case hs => intro p hp; k_mem); (case f0 => k_all); (case f1 => k_all); (case f2 => k_all); (case kd => ktr_room); (case ku => ktr_units)); intro l9 vs9 n9 R9 h9 tk9 S9 e9 m9 sub9 lt9 g0 g1 g2 F9 N9; (try dsimp only); (try k_fold))
        | (k_dflt (refine' use_ask0 ?kA ?k1 ?k2 ?k3 ?k4 ?k5 ?kK ?hR ?hs  ?kd ?ku ?_; (case k1 => k_asm); (case k2 => k_asm); (case k3 => k_asm); (case k4 => k_asm); (case k5 => k_asm); (case kK => first | exact rfl | assumption); (case hR => with_reducible assumption); (case kA => with_reducible assumption); (case hs => intro p hp; k_mem); (case kd => ktr_room); (case ku => ktr_units)); intro l9 vs9 n9 R9 h9 tk9 S9 e9 m9 sub9 lt9  F9 N9; (try dsimp only); (try k_fold)))
      | (k_unfold; (try dsimp only))
      | (k_end; wrow_close)
      | walk1
      | (dsimp only; walk1)
      | (leave1; walk_say "STEP leave1"; try dsimp only))
    all_goals (first
      | (refine' ask_end hret ?kF ?kN ?hl ?hv ?al ?sl ?hs; (case kF => k_asm); (case kN => k_asm); (case hl => k_mem); (case hv => ((try simp only [List.nil_append]); first | with_reducible assumption | exact StrsAre.nil | exact StrsAre.cons _ _ StrsAre.nil | exact StrsAre_app (by with_reducible assumption) (by with_reducible assumption) | exact StrsAre_app (StrsAre_app (by with_reducible assumption) (by with_reducible assumption)) (by with_reducible assumption))); (case al => first | tbn_find | exact allLt_of (by with_reducible assumption)); (case sl => intro p hp; k_mem); (case hs => intro p hp; k_mem))
      | skip)
    all_goals w_report)
set_option maxHeartbeats 8000000 in
theorem a_text  : Asks 21 .text 3 [] := by
  intro w mean mg mb q news hR
  unfold Does
  w_top off
  k_fill
  intro dp un gd cn cs a₀ ccd cl outer A₀ base h₀ L m s Q E B F X N T hk hroom hun hret
  cases hR
  rename_i hm
  w_strict (
    refine wpAny_call ?_
    k_dflt ktr_enter
    repeat' (first
      | ((with_reducible show wpAny _ _ (call (Value.ref _) _) _ _ _); first
        | (k_dflt (refine' use_ask3 ?kA ?k1 ?k2 ?k3 ?k4 ?k5 ?kK ?hR ?hs ?f0 ?f1 ?f2 ?kd ?ku ?_; (case k1 => k_asm); (case k2 => k_asm); (case k3 => k_asm); (case k4 => k_asm); (case k5 => k_asm); (case kK => first | exact rfl | assumption); (case hR => with_reducible assumption); (case kA => with_reducible assumption); (case hs => intro p hp; k_mem); (case f0 => k_all); (case f1 => k_all); (case f2 => k_all); (case kd => ktr_room); (case ku => ktr_units)); intro l9 vs9 n9 R9 h9 tk9 S9 e9 m9 sub9 lt9 g0 g1 g2 F9 N9; (try dsimp only); (try k_fold))
        | (k_dflt (refine' use_ask0 ?kA ?k1 ?k2 ?k3 ?k4 ?k5 ?kK ?hR ?hs  ?kd ?ku ?_; (case k1 => k_asm); (case k2 => k_asm); (case k3 => k_asm); (case k4 => k_asm); (case k5 => k_asm); (case kK => first | exact rfl | assumption); (case hR => with_reducible assumption); (case kA => with_reducible assumption); (case hs => intro p hp; k_mem); (case kd => ktr_room); (case ku => ktr_units)); intro l9 vs9 n9 R9 h9 tk9 S9 e9 m9 sub9 lt9  F9 N9; (try dsimp only); (try k_fold)))
      | (k_unfold; (try dsimp only))
      | (k_end; wrow_close)
      | walk1
      | (dsimp only; walk1)
      | (leave1; walk_say "STEP leave1"; try dsimp only))
    all_goals (first
      | (refine' ask_end hret ?kF ?kN ?hl ?hv ?al ?sl ?hs; (case kF => k_asm); (case kN => k_asm); (case hl => k_mem); (case hv => ((try simp only [List.nil_append]); first | with_reducible assumption | exact StrsAre.nil | exact StrsAre.cons _ _ StrsAre.nil | exact StrsAre_app (by with_reducible assumption) (by with_reducible assumption) | exact StrsAre_app (StrsAre_app (by with_reducible assumption) (by with_reducible assumption)) (by with_reducible assumption))); (case al => first | tbn_find | exact allLt_of (by with_reducible assumption)); (case sl => intro p hp; k_mem); (case hs => intro p hp; k_mem))
      | skip)
    all_goals w_report)
set_option maxHeartbeats 8000000 in
theorem a_whole  : Asks 21 .whole 3 [] := by
  intro w mean mg mb q news hR
  unfold Does
  w_top off
  k_fill
  intro dp un gd cn cs a₀ ccd cl outer A₀ base h₀ L m s Q E B F X N T hk hroom hun hret
  cases hR
  rename_i hm
  w_strict (
    refine wpAny_call ?_
    k_dflt ktr_enter
    repeat' (first
      | ((with_reducible show wpAny _ _ (call (Value.ref _) _) _ _ _); first
        | (k_dflt (refine' use_ask3 ?kA ?k1 ?k2 ?k3 ?k4 ?k5 ?kK ?hR ?hs ?f0 ?f1 ?f2 ?kd ?ku ?_; (case k1 => k_asm); (case k2 => k_asm); (case k3 => k_asm); (case k4 => k_asm); (case k5 => k_asm); (case kK => first | exact rfl | assumption); (case hR => with_reducible assumption); (case kA => with_reducible assumption); (case hs => intro p hp; k_mem); (case f0 => k_all); (case f1 => k_all); (case f2 => k_all); (case kd => ktr_room); (case ku => ktr_units)); intro l9 vs9 n9 R9 h9 tk9 S9 e9 m9 sub9 lt9 g0 g1 g2 F9 N9; (try dsimp only); (try k_fold))
        | (k_dflt (refine' use_ask0 ?kA ?k1 ?k2 ?k3 ?k4 ?k5 ?kK ?hR ?hs  ?kd ?ku ?_; (case k1 => k_asm); (case k2 => k_asm); (case k3 => k_asm); (case k4 => k_asm); (case k5 => k_asm); (case kK => first | exact rfl | assumption); (case hR => with_reducible assumption); (case kA => with_reducible assumption); (case hs => intro p hp; k_mem); (case kd => ktr_room); (case ku => ktr_units)); intro l9 vs9 n9 R9 h9 tk9 S9 e9 m9 sub9 lt9  F9 N9; (try dsimp only); (try k_fold)))
      | (k_unfold; (try dsimp only))
      | (k_end; wrow_close)
      | walk1
      | (dsimp only; walk1)
      | (leave1; walk_say "STEP leave1"; try dsimp only))
    all_goals (first
      | (refine' ask_end hret ?kF ?kN ?hl ?hv ?al ?sl ?hs; (case kF => k_asm); (case kN => k_asm); (case hl => k_mem); (case hv => ((try simp only [List.nil_append]); first | with_reducible assumption | exact StrsAre.nil | exact StrsAre.cons _ _ StrsAre.nil | exact StrsAre_app (by with_reducible assumption) (by with_reducible assumption) | exact StrsAre_app (StrsAre_app (by with_reducible assumption) (by with_reducible assumption)) (by with_reducible assumption))); (case al => first | tbn_find | exact allLt_of (by with_reducible assumption)); (case sl => intro p hp; k_mem); (case hs => intro p hp; k_mem))
      | skip)
    all_goals w_report)
set_option maxHeartbeats 8000000 in
theorem a_null  : Asks 21 .null 3 [] := by
  intro w mean mg mb q news hR
  unfold Does
  w_top off
  k_fill
  intro dp un gd cn cs a₀ ccd cl outer A₀ base h₀ L m s Q E B F X N T hk hroom hun hret
  cases hR
  rename_i hm
  w_strict (
    refine wpAny_call ?_
    k_dflt ktr_enter
    repeat' (first
      | ((with_reducible show wpAny _ _ (call (Value.ref _) _) _ _ _); first
        | (k_dflt (refine' use_ask3 ?kA ?k1 ?k2 ?k3 ?k4 ?k5 ?kK ?hR ?hs ?f0 ?f1 ?f2 ?kd ?ku ?_; (case k1 => k_asm); (case k2 => k_asm); (case k3 => k_asm); (case k4 => k_asm); (case k5 => k_asm); (case kK => first | exact rfl | assumption); (case hR => with_reducible assumption); (case kA => with_reducible assumption); (case hs => intro p hp; k_mem); (case f0 => k_all); (case f1 => k_all); (case f2 => k_all); (case kd => ktr_room); (case ku => ktr_units)); intro l9 vs9 n9 R9 h9 tk9 S9 e9 m9 sub9 lt9 g0 g1 g2 F9 N9; (try dsimp only); (try k_fold))
        | (k_dflt (refine' use_ask0 ?kA ?k1 ?k2 ?k3 ?k4 ?k5 ?kK ?hR ?hs  ?kd ?ku ?_; (case k1 => k_asm); (case k2 => k_asm); (case k3 => k_asm); (case k4 => k_asm); (case k5 => k_asm); (case kK => first | exact rfl | assumption); (case hR => with_reducible assumption); (case kA => with_reducible assumption); (case hs => intro p hp; k_mem); (case kd => ktr_room); (case ku => ktr_units)); intro l9 vs9 n9 R9 h9 tk9 S9 e9 m9 sub9 lt9  F9 N9; (try dsimp only); (try k_fold)))
      | (k_unfold; (try dsimp only))
      | (k_end; wrow_close)
      | walk1
      | (dsimp only; walk1)
      | (leave1; walk_say "STEP leave1"; try dsimp only))
    all_goals (first
      | (refine' ask_end hret ?kF ?kN ?hl ?hv ?al ?sl ?hs; (case kF => k_asm); (case kN => k_asm); (case hl => k_mem); (case hv => ((try simp only [List.nil_append]); first | with_reducible assumption | exact StrsAre.nil | exact StrsAre.cons _ _ StrsAre.nil | exact StrsAre_app (by with_reducible assumption) (by with_reducible assumption) | exact StrsAre_app (StrsAre_app (by with_reducible assumption) (by with_reducible assumption)) (by with_reducible assumption))); (case al => first | tbn_find | exact allLt_of (by with_reducible assumption)); (case sl => intro p hp; k_mem); (case hs => intro p hp; k_mem))
      | skip)
    all_goals w_report)
set_option maxHeartbeats 8000000 in
theorem a_item  : Asks 21 .item 3 [] := by
  intro w mean mg mb q news hR
  unfold Does
  w_top off
  k_fill
  intro dp un gd cn cs a₀ ccd cl outer A₀ base h₀ L m s Q E B F X N T hk hroom hun hret
  cases hR
  rename_i hm
  w_strict (
    refine wpAny_call ?_
    k_dflt ktr_enter
    repeat' (first
      | ((with_reducible show wpAny _ _ (call (Value.ref _) _) _ _ _); first
        | (k_dflt (refine' use_ask3 ?kA ?k1 ?k2 ?k3 ?k4 ?k5 ?kK ?hR ?hs ?f0 ?f1 ?f2 ?kd ?ku ?_; (case k1 => k_asm); (case k2 => k_asm); (case k3 => k_asm); (case k4 => k_asm); (case k5 => k_asm); (case kK => first | exact rfl | assumption); (case hR => with_reducible assumption); (case kA => with_reducible assumption); (case hs => intro p hp; k_mem); (case f0 => k_all); (case f1 => k_all); (case f2 => k_all); (case kd => ktr_room); (case ku => ktr_units)); intro l9 vs9 n9 R9 h9 tk9 S9 e9 m9 sub9 lt9 g0 g1 g2 F9 N9; (try dsimp only); (try k_fold))
        | (k_dflt (refine' use_ask0 ?kA ?k1 ?k2 ?k3 ?k4 ?k5 ?kK ?hR ?hs  ?kd ?ku ?_; (case k1 => k_asm); (case k2 => k_asm); (case k3 => k_asm); (case k4 => k_asm); (case k5 => k_asm); (case kK => first | exact rfl | assumption); (case hR => with_reducible assumption); (case kA => with_reducible assumption); (case hs => intro p hp; k_mem); (case kd => ktr_room); (case ku => ktr_units)); intro l9 vs9 n9 R9 h9 tk9 S9 e9 m9 sub9 lt9  F9 N9; (try dsimp only); (try k_fold)))
      | (k_unfold; (try dsimp only))
      | (k_end; wrow_close)
      | walk1
      | (dsimp only; walk1)
      | (leave1; walk_say "STEP leave1"; try dsimp only))
    all_goals (first
      | (refine' ask_end hret ?kF ?kN ?hl ?hv ?al ?sl ?hs; (case kF => k_asm); (case kN => k_asm); (case hl => k_mem); (case hv => ((try simp only [List.nil_append]); first | with_reducible assumption | exact StrsAre.nil | exact StrsAre.cons _ _ StrsAre.nil | exact StrsAre_app (by with_reducible assumption) (by with_reducible assumption) | exact StrsAre_app (StrsAre_app (by with_reducible assumption) (by with_reducible assumption)) (by with_reducible assumption))); (case al => first | tbn_find | exact allLt_of (by with_reducible assumption)); (case sl => intro p hp; k_mem); (case hs => intro p hp; k_mem))
      | skip)
    all_goals w_report)
set_option maxHeartbeats 8000000 in
theorem a_join {a b : Tr} {n : Nat} {xs ys : List Str} (HA : Asks 21 a n xs) (HB : Asks 21 b n ys) (hn : n < 100) (hx : xs.length ≤ 256) (hy : ys.length ≤ 256) : Asks 21 (.join a b) (n + 3) (xs ++ ys) := by
  intro w mean mg mb q news hR
  unfold Does
  w_top off
  k_fill
  intro dp un gd cn cs a₀ ccd cl outer A₀ base h₀ L m s Q E B F X N T hk hroom hun hret
  cases hR
  rename_i hm hu hv
  w_strict (
    refine wpAny_call ?_
    k_dflt ktr_enter
    repeat' (first
      | ((with_reducible show wpAny _ _ (call (Value.ref _) _) _ _ _); first
        | (k_dflt (refine' use_ask3 ?kA ?k1 ?k2 ?k3 ?k4 ?k5 ?kK ?hR ?hs ?f0 ?f1 ?f2 ?kd ?ku ?_; (case k1 => k_asm); (case k2 => k_asm); (case k3 => k_asm); (case k4 => k_asm); (case k5 => k_asm); (case kK => first | exact rfl | assumption); (case hR => with_reducible assumption); (case kA => with_reducible assumption); (case hs => intro p hp; k_mem); (case f0 => k_all); (case f1 => k_all); (case f2 => k_all); (case kd => ktr_room); (case ku => ktr_units)); intro l9 vs9 n9 R9 h9 tk9 S9 e9 m9 sub9 lt9 g0 g1 g2 F9 N9; (try dsimp only); (try k_fold))
        | (k_dflt (refine' use_ask0 ?kA ?k1 ?k2 ?k3 ?k4 ?k5 ?kK ?hR ?hs  ?kd ?ku ?_; (case k1 => k_asm); (case k2 => k_asm); (case k3 => k_asm); (case k4 => k_asm); (case k5 => k_asm); (case kK => first | exact rfl | assumption); (case hR => with_reducible assumption); (case kA => with_reducible assumption); (case hs => intro p hp; k_mem); (case kd => ktr_room); (case ku => ktr_units)); intro l9 vs9 n9 R9 h9 tk9 S9 e9 m9 sub9 lt9  F9 N9; (try dsimp only); (try k_fold)))
      | (k_unfold; (try dsimp only))
      | (k_end; wrow_close)
      | walk1
      | (dsimp only; walk1)
      | (leave1; walk_say "STEP leave1"; try dsimp only))
    all_goals (first
      | (refine' ask_end hret ?kF ?kN ?hl ?hv ?al ?sl ?hs; (case kF => k_asm); (case kN => k_asm); (case hl => k_mem); (case hv => ((try simp only [List.nil_append]); first | with_reducible assumption | exact StrsAre.nil | exact StrsAre.cons _ _ StrsAre.nil | exact StrsAre_app (by with_reducible assumption) (by with_reducible assumption) | exact StrsAre_app (StrsAre_app (by with_reducible assumption) (by with_reducible assumption)) (by with_reducible assumption))); (case al => first | tbn_find | exact allLt_of (by with_reducible assumption)); (case sl => intro p hp; k_mem); (case hs => intro p hp; k_mem))
      | skip)
    all_goals w_report)
set_option maxHeartbeats 8000000 in
theorem a_binP {a b : Tr} {n : Nat} {xs ys : List Str} (HA : Asks 21 a n xs) (HB : Asks 21 b n ys) (hn : n < 100) (hx : xs.length ≤ 256) (hy : ys.length ≤ 256) : Asks 21 (.bin .plain a b) (n + 3) (xs ++ ys) := by
  intro w mean mg mb q news hR
  unfold Does
  w_top off
  k_fill
  intro dp un gd cn cs a₀ ccd cl outer A₀ base h₀ L m s Q E B F X N T hk hroom hun hret
  cases hR
  rename_i hm ho hu hv
  simp only [BOp.Is] at ho
  w_strict (
    refine wpAny_call ?_
    k_dflt ktr_enter
    repeat' (first
      | ((with_reducible show wpAny _ _ (call (Value.ref _) _) _ _ _); first
        | (k_dflt (refine' use_ask3 ?kA ?k1 ?k2 ?k3 ?k4 ?k5 ?kK ?hR ?hs ?f0 ?f1 ?f2 ?kd ?ku ?_; (case k1 => k_asm); (case k2 => k_asm); (case k3 => k_asm); (case k4 => k_asm); (case k5 => k_asm); (case kK => first | exact rfl | assumption); (case hR => with_reducible assumption); (case kA => with_reducible assumption); (case hs => intro p hp; k_mem); (case f0 => k_all); (case f1 => k_all); (case f2 => k_all); (case kd => ktr_room); (case ku => ktr_units)); intro l9 vs9 n9 R9 h9 tk9 S9 e9 m9 sub9 lt9 g0 g1 g2 F9 N9; (try dsimp only); (try k_fold))
        | (k_dflt (refine' use_ask0 ?kA ?k1 ?k2 ?k3 ?k4 ?k5 ?kK ?hR ?hs  ?kd ?ku ?_; (case k1 => k_asm); (case k2 => k_asm); (case k3 => k_asm); (case k4 => k_asm); (case k5 => k_asm); (case kK => first | exact rfl | assumption); (case hR => with_reducible assumption); (case kA => with_reducible assumption); (case hs => intro p hp; k_mem); (case kd => ktr_room); (case ku => ktr_units)); intro l9 vs9 n9 R9 h9 tk9 S9 e9 m9 sub9 lt9  F9 N9; (try dsimp only); (try k_fold)))
      | (k_unfold; (try dsimp only))
      | (k_end; wrow_close)
      | walk1
      | (dsimp only; walk1)
      | (leave1; walk_say "STEP leave1"; try dsimp only))
    all_goals (first
      | (refine' ask_end hret ?kF ?kN ?hl ?hv ?al ?sl ?hs; (case kF => k_asm); (case kN => k_asm); (case hl => k_mem); (case hv => ((try simp only [List.nil_append]); first | with_reducible assumption | exact StrsAre.nil | exact StrsAre.cons _ _ StrsAre.nil | exact StrsAre_app (by with_reducible assumption) (by with_reducible assumption) | exact StrsAre_app (StrsAre_app (by with_reducible assumption) (by with_reducible assumption)) (by with_reducible assumption))); (case al => first | tbn_find | exact allLt_of (by with_reducible assumption)); (case sl => intro p hp; k_mem); (case hs => intro p hp; k_mem))
      | skip)
    all_goals w_report)
set_option maxHeartbeats 8000000 in
theorem a_binD {a b : Tr} {n : Nat} {xs ys : List Str} (HA : Asks 21 a n xs) (HB : Asks 28 b n ys) (hn : n < 100) (hx : xs.length ≤ 256) (hy : ys.length ≤ 256) : Asks 21 (.bin .told a b) (n + 3) (xs ++ ys) := by
  intro w mean mg mb q news hR
  unfold Does
  w_top off
  k_fill
  intro dp un gd cn cs a₀ ccd cl outer A₀ base h₀ L m s Q E B F X N T hk hroom hun hret
  cases hR
  rename_i hm ho hu hv
  simp only [BOp.Is] at ho
  w_strict (
    refine wpAny_call ?_
    k_dflt ktr_enter
    repeat' (first
      | ((with_reducible show wpAny _ _ (call (Value.ref _) _) _ _ _); first
        | (k_dflt (refine' use_ask3 ?kA ?k1 ?k2 ?k3 ?k4 ?k5 ?kK ?hR ?hs ?f0 ?f1 ?f2 ?kd ?ku ?_; (case k1 => k_asm); (case k2 => k_asm); (case k3 => k_asm); (case k4 => k_asm); (case k5 => k_asm); (case kK => first | exact rfl | assumption); (case hR => with_reducible assumption); (case kA => with_reducible assumption); (case hs => intro p hp; k_mem); (case f0 => k_all); (case f1 => k_all); (case f2 => k_all); (case kd => ktr_room); (case ku => ktr_units)); intro l9 vs9 n9 R9 h9 tk9 S9 e9 m9 sub9 lt9 g0 g1 g2 F9 N9; (try dsimp only); (try k_fold))
        | (k_dflt (refine' use_ask0 ?kA ?k1 ?k2 ?k3 ?k4 ?k5 ?kK ?hR ?hs  ?kd ?ku ?_; (case k1 => k_asm); (case k2 => k_asm); (case k3 => k_asm); (case k4 => k_asm); (case k5 => k_asm); (case kK => first | exact rfl | assumption); (case hR => with_reducible assumption); (case kA => with_reducible assumption); (case hs => intro p hp; k_mem); (case kd => ktr_room); (case ku => ktr_units)); intro l9 vs9 n9 R9 h9 tk9 S9 e9 m9 sub9 lt9  F9 N9; (try dsimp only); (try k_fold)))
      | (k_unfold; (try dsimp only))
      | (k_end; wrow_close)
      | walk1
      | (dsimp only; walk1)
      | (leave1; walk_say "STEP leave1"; try dsimp only))
    all_goals (first
      | (refine' ask_end hret ?kF ?kN ?hl ?hv ?al ?sl ?hs; (case kF => k_asm); (case kN => k_asm); (case hl => k_mem); (case hv => ((try simp only [List.nil_append]); first | with_reducible assumption | exact StrsAre.nil | exact StrsAre.cons _ _ StrsAre.nil | exact StrsAre_app (by with_reducible assumption) (by with_reducible assumption) | exact StrsAre_app (StrsAre_app (by with_reducible assumption) (by with_reducible assumption)) (by with_reducible assumption))); (case al => first | tbn_find | exact allLt_of (by with_reducible assumption)); (case sl => intro p hp; k_mem); (case hs => intro p hp; k_mem))
      | skip)
    all_goals w_report)
set_option maxHeartbeats 8000000 in
theorem a_unaP {a : Tr} {n : Nat} {xs : List Str} (HA : Asks 21 a n xs) (hn : n < 100) (hx : xs.length ≤ 256) : Asks 21 (.una .plain a) (n + 3) xs := by
  intro w mean mg mb q news hR
  unfold Does
  w_top off
  k_fill
  intro dp un gd cn cs a₀ ccd cl outer A₀ base h₀ L m s Q E B F X N T hk hroom hun hret
  cases hR
  rename_i hm ho hu
  obtain ⟨o1, o2, o3⟩ := ho
  w_strict (
    refine wpAny_call ?_
    k_dflt ktr_enter
    repeat' (first
      | ((with_reducible show wpAny _ _ (call (Value.ref _) _) _ _ _); first
        | (k_dflt (refine' use_ask3 ?kA ?k1 ?k2 ?k3 ?k4 ?k5 ?kK ?hR ?hs ?f0 ?f1 ?f2 ?kd ?ku ?_; (case k1 => k_asm); (case k2 => k_asm); (case k3 => k_asm); (case k4 => k_asm); (case k5 => k_asm); (case kK => first | exact rfl | assumption); (case hR => with_reducible assumption); (case kA => with_reducible assumption); (case hs => intro p hp; k_mem); (case f0 => k_all); (case f1 => k_all); (case f2 => k_all); (case kd => ktr_room); (case ku => ktr_units)); intro l9 vs9 n9 R9 h9 tk9 S9 e9 m9 sub9 lt9 g0 g1 g2 F9 N9; (try dsimp only); (try k_fold))
        | (k_dflt (refine' use_ask0 ?kA ?k1 ?k2 ?k3 ?k4 ?k5 ?kK ?hR ?hs  ?kd ?ku ?_; (case k1 => k_asm); (case k2 => k_asm); (case k3 => k_asm); (case k4 => k_asm); (case k5 => k_asm); (case kK => first | exact rfl | assumption); (case hR => with_reducible assumption); (case kA => with_reducible assumption); (case hs => intro p hp; k_mem); (case kd => ktr_room); (case ku => ktr_units)); intro l9 vs9 n9 R9 h9 tk9 S9 e9 m9 sub9 lt9  F9 N9; (try dsimp only); (try k_fold)))
      | (k_unfold; (try dsimp only))
      | (k_end; wrow_close)
      | walk1
      | (dsimp only; walk1)
      | (leave1; walk_say "STEP leave1"; try dsimp only))
    all_goals (first
      | (refine' ask_end hret ?kF ?kN ?hl ?hv ?al ?sl ?hs; (case kF => k_asm); (case kN => k_asm); (case hl => k_mem); (case hv => ((try simp only [List.nil_append]); first | with_reducible assumption | exact StrsAre.nil | exact StrsAre.cons _ _ StrsAre.nil | exact StrsAre_app (by with_reducible assumption) (by with_reducible assumption) | exact StrsAre_app (StrsAre_app (by with_reducible assumption) (by with_reducible assumption)) (by with_reducible assumption))); (case al => first | tbn_find | exact allLt_of (by with_reducible assumption)); (case sl => intro p hp; k_mem); (case hs => intro p hp; k_mem))
      | skip)
    all_goals w_report)
set_option maxHeartbeats 8000000 in
theorem a_unaL {a : Tr} {n : Nat} {xs : List Str} (HA : Asks 21 a n xs) (hn : n < 100) (hx : xs.length ≤ 256) : Asks 21 (.una .dol a) (n + 3) xs := by
  intro w mean mg mb q news hR
  unfold Does
  w_top off
  k_fill
  intro dp un gd cn cs a₀ ccd cl outer A₀ base h₀ L m s Q E B F X N T hk hroom hun hret
  cases hR
  rename_i hm ho hu
  cases ho
  w_strict (
    refine wpAny_call ?_
    k_dflt ktr_enter
    repeat' (first
      | ((with_reducible show wpAny _ _ (call (Value.ref _) _) _ _ _); first
        | (k_dflt (refine' use_ask3 ?kA ?k1 ?k2 ?k3 ?k4 ?k5 ?kK ?hR ?hs ?f0 ?f1 ?f2 ?kd ?ku ?_; (case k1 => k_asm); (case k2 => k_asm); (case k3 => k_asm); (case k4 => k_asm); (case k5 => k_asm); (case kK => first | exact rfl | assumption); (case hR => with_reducible assumption); (case kA => with_reducible assumption); (case hs => intro p hp; k_mem); (case f0 => k_all); (case f1 => k_all); (case f2 => k_all); (case kd => ktr_room); (case ku => ktr_units)); intro l9 vs9 n9 R9 h9 tk9 S9 e9 m9 sub9 lt9 g0 g1 g2 F9 N9; (try dsimp only); (try k_fold))
        | (k_dflt (refine' use_ask0 ?kA ?k1 ?k2 ?k3 ?k4 ?k5 ?kK ?hR ?hs  ?kd ?ku ?_; (case k1 => k_asm); (case k2 => k_asm); (case k3 => k_asm); (case k4 => k_asm); (case k5 => k_asm); (case kK => first | exact rfl | assumption); (case hR => with_reducible assumption); (case kA => with_reducible assumption); (case hs => intro p hp; k_mem); (case kd => ktr_room); (case ku => ktr_units)); intro l9 vs9 n9 R9 h9 tk9 S9 e9 m9 sub9 lt9  F9 N9; (try dsimp only); (try k_fold)))
      | (k_unfold; (try dsimp only))
      | (k_end; wrow_close)
      | walk1
      | (dsimp only; walk1)
      | (leave1; walk_say "STEP leave1"; try dsimp only))
    all_goals (first
      | (refine' ask_end hret ?kF ?kN ?hl ?hv ?al ?sl ?hs; (case kF => k_asm); (case kN => k_asm); (case hl => k_mem); (case hv => ((try simp only [List.nil_append]); first | with_reducible assumption | exact StrsAre.nil | exact StrsAre.cons _ _ StrsAre.nil | exact StrsAre_app (by with_reducible assumption) (by with_reducible assumption) | exact StrsAre_app (StrsAre_app (by with_reducible assumption) (by with_reducible assumption)) (by with_reducible assumption))); (case al => first | tbn_find | exact allLt_of (by with_reducible assumption)); (case sl => intro p hp; k_mem); (case hs => intro p hp; k_mem))
      | skip)
    all_goals w_report)
set_option maxHeartbeats 8000000 in
theorem a_unaD {a : Tr} {n : Nat} {xs : List Str} (HA : Asks 28 a n xs) (hn : n < 100) (hx : xs.length ≤ 256) : Asks 21 (.una .told a) (n + 3) xs := by
  intro w mean mg mb q news hR
  unfold Does
  w_top off
  k_fill
  intro dp un gd cn cs a₀ ccd cl outer A₀ base h₀ L m s Q E B F X N T hk hroom hun hret
  cases hR
  rename_i hm ho hu
  obtain ⟨o1, o2, o3⟩ := ho
  w_strict (
    refine wpAny_call ?_
    k_dflt ktr_enter
    repeat' (first
      | ((with_reducible show wpAny _ _ (call (Value.ref _) _) _ _ _); first
        | (k_dflt (refine' use_ask3 ?kA ?k1 ?k2 ?k3 ?k4 ?k5 ?kK ?hR ?hs ?f0 ?f1 ?f2 ?kd ?ku ?_; (case k1 => k_asm); (case k2 => k_asm); (case k3 => k_asm); (case k4 => k_asm); (case k5 => k_asm); (case kK => first | exact rfl | assumption); (case hR => with_reducible assumption); (case kA => with_reducible assumption); (case hs => intro p hp; k_mem); (case f0 => k_all); (case f1 => k_all); (case f2 => k_all); (case kd => ktr_room); (case ku => ktr_units)); intro l9 vs9 n9 R9 h9 tk9 S9 e9 m9 sub9 lt9 g0 g1 g2 F9 N9; (try dsimp only); (try k_fold))
        | (k_dflt (refine' use_ask0 ?kA ?k1 ?k2 ?k3 ?k4 ?k5 ?kK ?hR ?hs  ?kd ?ku ?_; (case k1 => k_asm); (case k2 => k_asm); (case k3 => k_asm); (case k4 => k_asm); (case k5 => k_asm); (case kK => first | exact rfl | assumption); (case hR => with_reducible assumption); (case kA => with_reducible assumption); (case hs => intro p hp; k_mem); (case kd => ktr_room); (case ku => ktr_units)); intro l9 vs9 n9 R9 h9 tk9 S9 e9 m9 sub9 lt9  F9 N9; (try dsimp only); (try k_fold)))
      | (k_unfold; (try dsimp only))
      | (k_end; wrow_close)
      | walk1
      | (dsimp only; walk1)
      | (leave1; walk_say "STEP leave1"; try dsimp only))
    all_goals (first
      | (refine' ask_end hret ?kF ?kN ?hl ?hv ?al ?sl ?hs; (case kF => k_asm); (case kN => k_asm); (case hl => k_mem); (case hv => ((try simp only [List.nil_append]); first | with_reducible assumption | exact StrsAre.nil | exact StrsAre.cons _ _ StrsAre.nil | exact StrsAre_app (by with_reducible assumption) (by with_reducible assumption) | exact StrsAre_app (StrsAre_app (by with_reducible assumption) (by with_reducible assumption)) (by with_reducible assumption))); (case al => first | tbn_find | exact allLt_of (by with_reducible assumption)); (case sl => intro p hp; k_mem); (case hs => intro p hp; k_mem))
      | skip)
    all_goals w_report)
set_option maxHeartbeats 8000000 in
theorem a_unaS {a : Tr} : Asks 21 (.una .star a) 3 [] := by
  intro w mean mg mb q news hR
  unfold Does
  w_top off
  k_fill
  intro dp un gd cn cs a₀ ccd cl outer A₀ base h₀ L m s Q E B F X N T hk hroom hun hret
  cases hR
  rename_i hm ho hu
  cases ho
  w_strict (
    refine wpAny_call ?_
    k_dflt ktr_enter
    repeat' (first
      | ((with_reducible show wpAny _ _ (call (Value.ref _) _) _ _ _); first
        | (k_dflt (refine' use_ask3 ?kA ?k1 ?k2 ?k3 ?k4 ?k5 ?kK ?hR ?hs ?f0 ?f1 ?f2 ?kd ?ku ?_; (case k1 => k_asm); (case k2 => k_asm); (case k3 => k_asm); (case k4 => k_asm); (case k5 => k_asm); (case kK => first | exact rfl | assumption); (case hR => with_reducible assumption); (case kA => with_reducible assumption); (case hs => intro p hp; k_mem); (case f0 => k_all); (case f1 => k_all); (case f2 => k_all); (case kd => ktr_room); (case ku => ktr_units)); intro l9 vs9 n9 R9 h9 tk9 S9 e9 m9 sub9 lt9 g0 g1 g2 F9 N9; (try dsimp only); (try k_fold))
        | (k_dflt (refine' use_ask0 ?kA ?k1 ?k2 ?k3 ?k4 ?k5 ?kK ?hR ?hs  ?kd ?ku ?_; (case k1 => k_asm); (case k2 => k_asm); (case k3 => k_asm); (case k4 => k_asm); (case k5 => k_asm); (case kK => first | exact rfl | assumption); (case hR => with_reducible assumption); (case kA => with_reducible assumption); (case hs => intro p hp; k_mem); (case kd => ktr_room); (case ku => ktr_units)); intro l9 vs9 n9 R9 h9 tk9 S9 e9 m9 sub9 lt9  F9 N9; (try dsimp only); (try k_fold)))
      | (k_unfold; (try dsimp only))
      | (k_end; wrow_close)
      | walk1
      | (dsimp only; walk1)
      | (leave1; walk_say "STEP leave1"; try dsimp only))
    all_goals (first
      | (refine' ask_end hret ?kF ?kN ?hl ?hv ?al ?sl ?hs; (case kF => k_asm); (case kN => k_asm); (case hl => k_mem); (case hv => ((try simp only [List.nil_append]); first | with_reducible assumption | exact StrsAre.nil | exact StrsAre.cons _ _ StrsAre.nil | exact StrsAre_app (by with_reducible assumption) (by with_reducible assumption) | exact StrsAre_app (StrsAre_app (by with_reducible assumption) (by with_reducible assumption)) (by with_reducible assumption))); (case al => first | tbn_find | exact allLt_of (by with_reducible assumption)); (case sl => intro p hp; k_mem); (case hs => intro p hp; k_mem))
      | skip)
    all_goals w_report)
set_option maxHeartbeats 8000000 in
theorem a_call0  : Asks 21 .call0 3 [] := by
  intro w mean mg mb q news hR
  unfold Does
  w_top off
  k_fill
  intro dp un gd cn cs a₀ ccd cl outer A₀ base h₀ L m s Q E B F X N T hk hroom hun hret
  cases hR
  rename_i hm hp
  w_strict (
    refine wpAny_call ?_
    k_dflt ktr_enter
    repeat' (first
      | ((with_reducible show wpAny _ _ (call (Value.ref _) _) _ _ _); first
        | (k_dflt (refine' use_ask3 ?kA ?k1 ?k2 ?k3 ?k4 ?k5 ?kK ?hR ?hs ?f0 ?f1 ?f2 ?kd ?ku ?_; (case k1 => k_asm); (case k2 => k_asm); (case k3 => k_asm); (case k4 => k_asm); (case k5 => k_asm); (case kK => first | exact rfl | assumption); (case hR => with_reducible assumption); (case kA => with_reducible assumption); (case hs => intro p hp; k_mem); (case f0 => k_all); (case f1 => k_all); (case f2 => k_all); (case kd => ktr_room); (case ku => ktr_units)); intro l9 vs9 n9 R9 h9 tk9 S9 e9 m9 sub9 lt9 g0 g1 g2 F9 N9; (try dsimp only); (try k_fold))
        | (k_dflt (refine' use_ask0 ?kA ?k1 ?k2 ?k3 ?k4 ?k5 ?kK ?hR ?hs  ?kd ?ku ?_; (case k1 => k_asm); (case k2 => k_asm); (case k3 => k_asm); (case k4 => k_asm); (case k5 => k_asm); (case kK => first | exact rfl | assumption); (case hR => with_reducible assumption); (case kA => with_reducible assumption); (case hs => intro p hp; k_mem); (case kd => ktr_room); (case ku => ktr_units)); intro l9 vs9 n9 R9 h9 tk9 S9 e9 m9 sub9 lt9  F9 N9; (try dsimp only); (try k_fold)))
      | (k_unfold; (try dsimp only))
      | (k_end; wrow_close)
      | walk1
      | (dsimp only; walk1)
      | (leave1; walk_say "STEP leave1"; try dsimp only))
    all_goals (first
      | (refine' ask_end hret ?kF ?kN ?hl ?hv ?al ?sl ?hs; (case kF => k_asm); (case kN => k_asm); (case hl => k_mem); (case hv => ((try simp only [List.nil_append]); first | with_reducible assumption | exact StrsAre.nil | exact StrsAre.cons _ _ StrsAre.nil | exact StrsAre_app (by with_reducible assumption) (by with_reducible assumption) | exact StrsAre_app (StrsAre_app (by with_reducible assumption) (by with_reducible assumption)) (by with_reducible assumption))); (case al => first | tbn_find | exact allLt_of (by with_reducible assumption)); (case sl => intro p hp; k_mem); (case hs => intro p hp; k_mem))
      | skip)
    all_goals w_report)
set_option maxHeartbeats 8000000 in
theorem a_call1 {a : Tr} {n : Nat} {xs : List Str} (HA : Asks 21 a n xs) (hn : n < 100) (hx : xs.length ≤ 256) : Asks 21 (.call1 a) (n + 3) xs := by
  intro w mean mg mb q news hR
  unfold Does
  w_top off
  k_fill
  intro dp un gd cn cs a₀ ccd cl outer A₀ base h₀ L m s Q E B F X N T hk hroom hun hret
  cases hR
  rename_i hm hp hu
  w_strict (
    refine wpAny_call ?_
    k_dflt ktr_enter
    repeat' (first
      | ((with_reducible show wpAny _ _ (call (Value.ref _) _) _ _ _); first
        | (k_dflt (refine' use_ask3 ?kA ?k1 ?k2 ?k3 ?k4 ?k5 ?kK ?hR ?hs ?f0 ?f1 ?f2 ?kd ?ku ?_; (case k1 => k_asm); (case k2 => k_asm); (case k3 => k_asm); (case k4 => k_asm); (case k5 => k_asm); (case kK => first | exact rfl | assumption); (case hR => with_reducible assumption); (case kA => with_reducible assumption); (case hs => intro p hp; k_mem); (case f0 => k_all); (case f1 => k_all); (case f2 => k_all); (case kd => ktr_room); (case ku => ktr_units)); intro l9 vs9 n9 R9 h9 tk9 S9 e9 m9 sub9 lt9 g0 g1 g2 F9 N9; (try dsimp only); (try k_fold))
        | (k_dflt (refine' use_ask0 ?kA ?k1 ?k2 ?k3 ?k4 ?k5 ?kK ?hR ?hs  ?kd ?ku ?_; (case k1 => k_asm); (case k2 => k_asm); (case k3 => k_asm); (case k4 => k_asm); (case k5 => k_asm); (case kK => first | exact rfl | assumption); (case hR => with_reducible assumption); (case kA => with_reducible assumption); (case hs => intro p hp; k_mem); (case kd => ktr_room); (case ku => ktr_units)); intro l9 vs9 n9 R9 h9 tk9 S9 e9 m9 sub9 lt9  F9 N9; (try dsimp only); (try k_fold)))
      | (k_unfold; (try dsimp only))
      | (k_end; wrow_close)
      | walk1
      | (dsimp only; walk1)
      | (leave1; walk_say "STEP leave1"; try dsimp only))
    all_goals (first
      | (refine' ask_end hret ?kF ?kN ?hl ?hv ?al ?sl ?hs; (case kF => k_asm); (case kN => k_asm); (case hl => k_mem); (case hv => ((try simp only [List.nil_append]); first | with_reducible assumption | exact StrsAre.nil | exact StrsAre.cons _ _ StrsAre.nil | exact StrsAre_app (by with_reducible assumption) (by with_reducible assumption) | exact StrsAre_app (StrsAre_app (by with_reducible assumption) (by with_reducible assumption)) (by with_reducible assumption))); (case al => first | tbn_find | exact allLt_of (by with_reducible assumption)); (case sl => intro p hp; k_mem); (case hs => intro p hp; k_mem))
      | skip)
    all_goals w_report)
set_option maxHeartbeats 8000000 in
theorem a_call2 {a b : Tr} {n : Nat} {xs ys : List Str} (HA : Asks 21 a n xs) (HB : Asks 21 b n ys) (hn : n < 100) (hx : xs.length ≤ 256) (hy : ys.length ≤ 256) : Asks 21 (.call2 a b) (n + 3) (xs ++ ys) := by
  intro w mean mg mb q news hR
  unfold Does
  w_top off
  k_fill
  intro dp un gd cn cs a₀ ccd cl outer A₀ base h₀ L m s Q E B F X N T hk hroom hun hret
  cases hR
  rename_i hm hp hu hv
  w_strict (
    refine wpAny_call ?_
    k_dflt ktr_enter
    repeat' (first
      | ((with_reducible show wpAny _ _ (call (Value.ref _) _) _ _ _); first
        | (k_dflt (refine' use_ask3 ?kA ?k1 ?k2 ?k3 ?k4 ?k5 ?kK ?hR ?hs ?f0 ?f1 ?f2 ?kd ?ku ?_; (case k1 => k_asm); (case k2 => k_asm); (case k3 => k_asm); (case k4 => k_asm); (case k5 => k_asm); (case kK => first | exact rfl | assumption); (case hR => with_reducible assumption); (case kA => with_reducible assumption); (case hs => intro p hp; k_mem); (case f0 => k_all); (case f1 => k_all); (case f2 => k_all); (case kd => ktr_room); (case ku => ktr_units)); intro l9 vs9 n9 R9 h9 tk9 S9 e9 m9 sub9 lt9 g0 g1 g2 F9 N9; (try dsimp only); (try k_fold))
        | (k_dflt (refine' use_ask0 ?kA ?k1 ?k2 ?k3 ?k4 ?k5 ?kK ?hR ?hs  ?kd ?ku ?_; (case k1 => k_asm); (case k2 => k_asm); (case k3 => k_asm); (case k4 => k_asm); (case k5 => k_asm); (case kK => first | exact rfl | assumption); (case hR => with_reducible assumption); (case kA => with_reducible assumption); (case hs => intro p hp; k_mem); (case kd => ktr_room); (case ku => ktr_units)); intro l9 vs9 n9 R9 h9 tk9 S9 e9 m9 sub9 lt9  F9 N9; (try dsimp only); (try k_fold)))
      | (k_unfold; (try dsimp only))
      | (k_end; wrow_close)
      | walk1
      | (dsimp only; walk1)
      | (leave1; walk_say "STEP leave1"; try dsimp only))
    all_goals (first
      | (refine' ask_end hret ?kF ?kN ?hl ?hv ?al ?sl ?hs; (case kF => k_asm); (case kN => k_asm); (case hl => k_mem); (case hv => ((try simp only [List.nil_append]); first | with_reducible assumption | exact StrsAre.nil | exact StrsAre.cons _ _ StrsAre.nil | exact StrsAre_app (by with_reducible assumption) (by with_reducible assumption) | exact StrsAre_app (StrsAre_app (by with_reducible assumption) (by with_reducible assumption)) (by with_reducible assumption))); (case al => first | tbn_find | exact allLt_of (by with_reducible assumption)); (case sl => intro p hp; k_mem); (case hs => intro p hp; k_mem))
      | skip)
    all_goals w_report)
set_option maxHeartbeats 8000000 in
theorem h_unaL {a : Tr} {n : Nat} {xs : List Str} (HA : Asks 21 a n xs) (hn : n < 100) (hx : xs.length ≤ 256) : Asks 28 (.una .dol a) (n + 3) xs := by
  intro w mean mg mb q news hR
  unfold Does
  w_top off
  k_fill
  intro dp un gd cn cs a₀ ccd cl outer A₀ base h₀ L m s Q E B F X N T hk hroom hun hret
  cases hR
  rename_i hm ho hu
  cases ho
  w_strict (
    refine wpAny_call ?_
    k_dflt ktr_enter
    repeat' (first
      | ((with_reducible show wpAny _ _ (call (Value.ref _) _) _ _ _); first
        | (k_dflt (refine' use_ask3 ?kA ?k1 ?k2 ?k3 ?k4 ?k5 ?kK ?hR ?hs ?f0 ?f1 ?f2 ?kd ?ku ?_; (case k1 => k_asm); (case k2 => k_asm); (case k3 => k_asm); (case k4 => k_asm); (case k5 => k_asm); (case kK => first | exact rfl | assumption); (case hR => with_reducible assumption); (case kA => with_reducible assumption); (case hs => intro p hp; k_mem); (case f0 => k_all); (case f1 => k_all); (case f2 => k_all); (case kd => ktr_room); (case ku => ktr_units)); intro l9 vs9 n9 R9 h9 tk9 S9 e9 m9 sub9 lt9 g0 g1 g2 F9 N9; (try dsimp only); (try k_fold))
        | (k_dflt (refine' use_ask0 ?kA ?k1 ?k2 ?k3 ?k4 ?k5 ?kK ?hR ?hs  ?kd ?ku ?_; (case k1 => k_asm); (case k2 => k_asm); (case k3 => k_asm); (case k4 => k_asm); (case k5 => k_asm); (case kK => first | exact rfl | assumption); (case hR => with_reducible assumption); (case kA => with_reducible assumption); (case hs => intro p hp; k_mem); (case kd => ktr_room); (case ku => ktr_units)); intro l9 vs9 n9 R9 h9 tk9 S9 e9 m9 sub9 lt9  F9 N9; (try dsimp only); (try k_fold)))
      | (k_unfold; (try dsimp only))
      | (k_end; wrow_close)
      | walk1
      | (dsimp only; walk1)
      | (leave1; walk_say "STEP leave1"; try dsimp only))
    all_goals (first
      | (refine' ask_end hret ?kF ?kN ?hl ?hv ?al ?sl ?hs; (case kF => k_asm); (case kN => k_asm); (case hl => k_mem); (case hv => ((try simp only [List.nil_append]); first | with_reducible assumption | exact StrsAre.nil | exact StrsAre.cons _ _ StrsAre.nil | exact StrsAre_app (by with_reducible assumption) (by with_reducible assumption) | exact StrsAre_app (StrsAre_app (by with_reducible assumption) (by with_reducible assumption)) (by with_reducible assumption))); (case al => first | tbn_find | exact allLt_of (by with_reducible assumption)); (case sl => intro p hp; k_mem); (case hs => intro p hp; k_mem))
      | skip)
    all_goals w_report)
set_option maxHeartbeats 8000000 in
theorem h_unaS {a : Tr} : Asks 28 (.una .star a) 3 [] := by
  intro w mean mg mb q news hR
  unfold Does
  w_top off
  k_fill
  intro dp un gd cn cs a₀ ccd cl outer A₀ base h₀ L m s Q E B F X N T hk hroom hun hret
  cases hR
  rename_i hm ho hu
  cases ho
  w_strict (
    refine wpAny_call ?_
    k_dflt ktr_enter
    repeat' (first
      | ((with_reducible show wpAny _ _ (call (Value.ref _) _) _ _ _); first
        | (k_dflt (refine' use_ask3 ?kA ?k1 ?k2 ?k3 ?k4 ?k5 ?kK ?hR ?hs ?f0 ?f1 ?f2 ?kd ?ku ?_; (case k1 => k_asm); (case k2 => k_asm); (case k3 => k_asm); (case k4 => k_asm); (case k5 => k_asm); (case kK => first | exact rfl | assumption); (case hR => with_reducible assumption); (case kA => with_reducible assumption); (case hs => intro p hp; k_mem); (case f0 => k_all); (case f1 => k_all); (case f2 => k_all); (case kd => ktr_room); (case ku => ktr_units)); intro l9 vs9 n9 R9 h9 tk9 S9 e9 m9 sub9 lt9 g0 g1 g2 F9 N9; (try dsimp only); (try k_fold))
        | (k_dflt (refine' use_ask0 ?kA ?k1 ?k2 ?k3 ?k4 ?k5 ?kK ?hR ?hs  ?kd ?ku ?_; (case k1 => k_asm); (case k2 => k_asm); (case k3 => k_asm); (case k4 => k_asm); (case k5 => k_asm); (case kK => first | exact rfl | assumption); (case hR => with_reducible assumption); (case kA => with_reducible assumption); (case hs => intro p hp; k_mem); (case kd => ktr_room); (case ku => ktr_units)); intro l9 vs9 n9 R9 h9 tk9 S9 e9 m9 sub9 lt9  F9 N9; (try dsimp only); (try k_fold)))
      | (k_unfold; (try dsimp only))
      | (k_end; wrow_close)
      | walk1
      | (dsimp only; walk1)
      | (leave1; walk_say "STEP leave1"; try dsimp only))
    all_goals (first
      | (refine' ask_end hret ?kF ?kN ?hl ?hv ?al ?sl ?hs; (case kF => k_asm); (case kN => k_asm); (case hl => k_mem); (case hv => ((try simp only [List.nil_append]); first | with_reducible assumption | exact StrsAre.nil | exact StrsAre.cons _ _ StrsAre.nil | exact StrsAre_app (by with_reducible assumption) (by with_reducible assumption) | exact StrsAre_app (StrsAre_app (by with_reducible assumption) (by with_reducible assumption)) (by with_reducible assumption))); (case al => first | tbn_find | exact allLt_of (by with_reducible assumption)); (case sl => intro p hp; k_mem); (case hs => intro p hp; k_mem))
      | skip)
    all_goals w_report)
set_option maxHeartbeats 8000000 in
theorem h_unaD {a : Tr} : Asks 28 (.una .told a) 3 [] := by
  intro w mean mg mb q news hR
  unfold Does
  w_top off
  k_fill
  intro dp un gd cn cs a₀ ccd cl outer A₀ base h₀ L m s Q E B F X N T hk hroom hun hret
  cases hR
  rename_i hm ho hu
  obtain ⟨o1, o2, o3⟩ := ho
  w_strict (
    refine wpAny_call ?_
    k_dflt ktr_enter
    repeat' (first
      | ((with_reducible show wpAny _ _ (call (Value.ref _) _) _ _ _); first
        | (k_dflt (refine' use_ask3 ?kA ?k1 ?k2 ?k3 ?k4 ?k5 ?kK ?hR ?hs ?f0 ?f1 ?f2 ?kd ?ku ?_; (case k1 => k_asm); (case k2 => k_asm); (case k3 => k_asm); (case k4 => k_asm); (case k5 => k_asm); (case kK => first | exact rfl | assumption); (case hR => with_reducible assumption); (case kA => with_reducible assumption); (case hs => intro p hp; k_mem); (case f0 => k_all); (case f1 => k_all); (case f2 => k_all); (case kd => ktr_room); (case ku => ktr_units)); intro l9 vs9 n9 R9 h9 tk9 S9 e9 m9 sub9 lt9 g0 g1 g2 F9 N9; (try dsimp only); (try k_fold))
        | (k_dflt (refine' use_ask0 ?kA ?k1 ?k2 ?k3 ?k4 ?k5 ?kK ?hR ?hs  ?kd ?ku ?_; (case k1 => k_asm); (case k2 => k_asm); (case k3 => k_asm); (case k4 => k_asm); (case k5 => k_asm); (case kK => first | exact rfl | assumption); (case hR => with_reducible assumption); (case kA => with_reducible assumption); (case hs => intro p hp; k_mem); (case kd => ktr_room); (case ku => ktr_units)); intro l9 vs9 n9 R9 h9 tk9 S9 e9 m9 sub9 lt9  F9 N9; (try dsimp only); (try k_fold)))
      | (k_unfold; (try dsimp only))
      | (k_end; wrow_close)
      | walk1
      | (dsimp only; walk1)
      | (leave1; walk_say "STEP leave1"; try dsimp only))
    all_goals (first
      | (refine' ask_end hret ?kF ?kN ?hl ?hv ?al ?sl ?hs; (case kF => k_asm); (case kN => k_asm); (case hl => k_mem); (case hv => ((try simp only [List.nil_append]); first | with_reducible assumption | exact StrsAre.nil | exact StrsAre.cons _ _ StrsAre.nil | exact StrsAre_app (by with_reducible assumption) (by with_reducible assumption) | exact StrsAre_app (StrsAre_app (by with_reducible assumption) (by with_reducible assumption)) (by with_reducible assumption))); (case al => first | tbn_find | exact allLt_of (by with_reducible assumption)); (case sl => intro p hp; k_mem); (case hs => intro p hp; k_mem))
      | skip)
    all_goals w_report)
set_option maxHeartbeats 8000000 in
theorem h_unaP {a : Tr} : Asks 28 (.una .plain a) 3 [] := by
  intro w mean mg mb q news hR
  unfold Does
  w_top off
  k_fill
  intro dp un gd cn cs a₀ ccd cl outer A₀ base h₀ L m s Q E B F X N T hk hroom hun hret
  cases hR
  rename_i hm ho hu
  obtain ⟨o1, o2, o3⟩ := ho
  w_strict (
    refine wpAny_call ?_
    k_dflt ktr_enter
    repeat' (first
      | ((with_reducible show wpAny _ _ (call (Value.ref _) _) _ _ _); first
        | (k_dflt (refine' use_ask3 ?kA ?k1 ?k2 ?k3 ?k4 ?k5 ?kK ?hR ?hs ?f0 ?f1 ?f2 ?kd ?ku ?_; (case k1 => k_asm); (case k2 => k_asm); (case k3 => k_asm); (case k4 => k_asm); (case k5 => k_asm); (case kK => first | exact rfl | assumption); (case hR => with_reducible assumption); (case kA => with_reducible assumption); (case hs => intro p hp; k_mem); (case f0 => k_all); (case f1 => k_all); (case f2 => k_all); (case kd => ktr_room); (case ku => ktr_units)); intro l9 vs9 n9 R9 h9 tk9 S9 e9 m9 sub9 lt9 g0 g1 g2 F9 N9; (try dsimp only); (try k_fold))
        | (k_dflt (refine' use_ask0 ?kA ?k1 ?k2 ?k3 ?k4 ?k5 ?kK ?hR ?hs  ?kd ?ku ?_; (case k1 => k_asm); (case k2 => k_asm); (case k3 => k_asm); (case k4 => k_asm); (case k5 => k_asm); (case kK => first | exact rfl | assumption); (case hR => with_reducible assumption); (case kA => with_reducible assumption); (case hs => intro p hp; k_mem); (case kd => ktr_room); (case ku => ktr_units)); intro l9 vs9 n9 R9 h9 tk9 S9 e9 m9 sub9 lt9  F9 N9; (try dsimp only); (try k_fold)))
      | (k_unfold; (try dsimp only))
      | (k_end; wrow_close)
      | walk1
      | (dsimp only; walk1)
      | (leave1; walk_say "STEP leave1"; try dsimp only))
    all_goals (first
      | (refine' ask_end hret ?kF ?kN ?hl ?hv ?al ?sl ?hs; (case kF => k_asm); (case kN => k_asm); (case hl => k_mem); (case hv => ((try simp only [List.nil_append]); first | with_reducible assumption | exact StrsAre.nil | exact StrsAre.cons _ _ StrsAre.nil | exact StrsAre_app (by with_reducible assumption) (by with_reducible assumption) | exact StrsAre_app (StrsAre_app (by with_reducible assumption) (by with_reducible assumption)) (by with_reducible assumption))); (case al => first | tbn_find | exact allLt_of (by with_reducible assumption)); (case sl => intro p hp; k_mem); (case hs => intro p hp; k_mem))
      | skip)
    all_goals w_report)
set_option maxHeartbeats 8000000 in
theorem h_name {x : Str} : Asks 28 (.name x) 3 [] := by
  intro w mean mg mb q news hR
  unfold Does
  w_top off
  k_fill
  intro dp un gd cn cs a₀ ccd cl outer A₀ base h₀ L m s Q E B F X N T hk hroom hun hret
  cases hR
  rename_i hm
  w_strict (
    refine wpAny_call ?_
    k_dflt ktr_enter
    repeat' (first
      | ((with_reducible show wpAny _ _ (call (Value.ref _) _) _ _ _); first
        | (k_dflt (refine' use_ask3 ?kA ?k1 ?k2 ?k3 ?k4 ?k5 ?kK ?hR ?hs ?f0 ?f1 ?f2 ?kd ?ku ?_; (case k1 => k_asm); (case k2 => k_asm); (case k3 => k_asm); (case k4 => k_asm); (case k5 => k_asm); (case kK => first | exact rfl | assumption); (case hR => with_reducible assumption); (case kA => with_reducible assumption); (case hs => intro p hp; k_mem); (case f0 => k_all); (case f1 => k_all); (case f2 => k_all); (case kd => ktr_room); (case ku => ktr_units)); intro l9 vs9 n9 R9 h9 tk9 S9 e9 m9 sub9 lt9 g0 g1 g2 F9 N9; (try dsimp only); (try k_fold))
        | (k_dflt (refine' use_ask0 ?kA ?k1 ?k2 ?k3 ?k4 ?k5 ?kK ?hR ?hs  ?kd ?ku ?_; (case k1 => k_asm); (case k2 => k_asm); (case k3 => k_asm); (case k4 => k_asm); (case k5 => k_asm); (case kK => first | exact rfl | assumption); (case hR => with_reducible assumption); (case kA => with_reducible assumption); (case hs => intro p hp; k_mem); (case kd => ktr_room); (case ku => ktr_units)); intro l9 vs9 n9 R9 h9 tk9 S9 e9 m9 sub9 lt9  F9 N9; (try dsimp only); (try k_fold)))
      | (k_unfold; (try dsimp only))
      | (k_end; wrow_close)
      | walk1
      | (dsimp only; walk1)
      | (leave1; walk_say "STEP leave1"; try dsimp only))
    all_goals (first
      | (refine' ask_end hret ?kF ?kN ?hl ?hv ?al ?sl ?hs; (case kF => k_asm); (case kN => k_asm); (case hl => k_mem); (case hv => ((try simp only [List.nil_append]); first | with_reducible assumption | exact StrsAre.nil | exact StrsAre.cons _ _ StrsAre.nil | exact StrsAre_app (by with_reducible assumption) (by with_reducible assumption) | exact StrsAre_app (StrsAre_app (by with_reducible assumption) (by with_reducible assumption)) (by with_reducible assumption))); (case al => first | tbn_find | exact allLt_of (by with_reducible assumption)); (case sl => intro p hp; k_mem); (case hs => intro p hp; k_mem))
      | skip)
    all_goals w_report)
set_option maxHeartbeats 8000000 in
theorem h_text  : Asks 28 .text 3 [] := by
  intro w mean mg mb q news hR
  unfold Does
  w_top off
  k_fill
  intro dp un gd cn cs a₀ ccd cl outer A₀ base h₀ L m s Q E B F X N T hk hroom hun hret
  cases hR
  rename_i hm
  w_strict (
    refine wpAny_call ?_
    k_dflt ktr_enter
    repeat' (first
      | ((with_reducible show wpAny _ _ (call (Value.ref _) _) _ _ _); first
        | (k_dflt (refine' use_ask3 ?kA ?k1 ?k2 ?k3 ?k4 ?k5 ?kK ?hR ?hs ?f0 ?f1 ?f2 ?kd ?ku ?_; (case k1 => k_asm); (case k2 => k_asm); (case k3 => k_asm); (case k4 => k_asm); (case k5 => k_asm); (case kK => first | exact rfl | assumption); (case hR => with_reducible assumption); (case kA => with_reducible assumption); (case hs => intro p hp; k_mem); (case f0 => k_all); (case f1 => k_all); (case f2 => k_all); (case kd => ktr_room); (case ku => ktr_units)); intro l9 vs9 n9 R9 h9 tk9 S9 e9 m9 sub9 lt9 g0 g1 g2 F9 N9; (try dsimp only); (try k_fold))
        | (k_dflt (refine' use_ask0 ?kA ?k1 ?k2 ?k3 ?k4 ?k5 ?kK ?hR ?hs  ?kd ?ku ?_; (case k1 => k_asm); (case k2 => k_asm); (case k3 => k_asm); (case k4 => k_asm); (case k5 => k_asm); (case kK => first | exact rfl | assumption); (case hR => with_reducible assumption); (case kA => with_reducible assumption); (case hs => intro p hp; k_mem); (case kd => ktr_room); (case ku => ktr_units)); intro l9 vs9 n9 R9 h9 tk9 S9 e9 m9 sub9 lt9  F9 N9; (try dsimp only); (try k_fold)))
      | (k_unfold; (try dsimp only))
      | (k_end; wrow_close)
      | walk1
      | (dsimp only; walk1)
      | (leave1; walk_say "STEP leave1"; try dsimp only))
    all_goals (first
      | (refine' ask_end hret ?kF ?kN ?hl ?hv ?al ?sl ?hs; (case kF => k_asm); (case kN => k_asm); (case hl => k_mem); (case hv => ((try simp only [List.nil_append]); first | with_reducible assumption | exact StrsAre.nil | exact StrsAre.cons _ _ StrsAre.nil | exact StrsAre_app (by with_reducible assumption) (by with_reducible assumption) | exact StrsAre_app (StrsAre_app (by with_reducible assumption) (by with_reducible assumption)) (by with_reducible assumption))); (case al => first | tbn_find | exact allLt_of (by with_reducible assumption)); (case sl => intro p hp; k_mem); (case hs => intro p hp; k_mem))
      | skip)
    all_goals w_report)
set_option maxHeartbeats 8000000 in
theorem h_whole  : Asks 28 .whole 3 [] := by
  intro w mean mg mb q news hR
  unfold Does
  w_top off
  k_fill
  intro dp un gd cn cs a₀ ccd cl outer A₀ base h₀ L m s Q E B F X N T hk hroom hun hret
  cases hR
  rename_i hm
  w_strict (
    refine wpAny_call ?_
    k_dflt ktr_enter
    repeat' (first
      | ((with_reducible show wpAny _ _ (call (Value.ref _) _) _ _ _); first
        | (k_dflt (refine' use_ask3 ?kA ?k1 ?k2 ?k3 ?k4 ?k5 ?kK ?hR ?hs ?f0 ?f1 ?f2 ?kd ?ku ?_; (case k1 => k_asm); (case k2 => k_asm); (case k3 => k_asm); (case k4 => k_asm); (case k5 => k_asm); (case kK => first | exact rfl | assumption); (case hR => with_reducible assumption); (case kA => with_reducible assumption); (case hs => intro p hp; k_mem); (case f0 => k_all); (case f1 => k_all); (case f2 => k_all); (case kd => ktr_room); (case ku => ktr_units)); intro l9 vs9 n9 R9 h9 tk9 S9 e9 m9 sub9 lt9 g0 g1 g2 F9 N9; (try dsimp only); (try k_fold))
        | (k_dflt (refine' use_ask0 ?kA ?k1 ?k2 ?k3 ?k4 ?k5 ?kK ?hR ?hs  ?kd ?ku ?_; (case k1 => k_asm); (case k2 => k_asm); (case k3 => k_asm); (case k4 => k_asm); (case k5 => k_asm); (case kK => first | exact rfl | assumption); (case hR => with_reducible assumption); (case kA => with_reducible assumption); (case hs => intro p hp; k_mem); (case kd => ktr_room); (case ku => ktr_units)); intro l9 vs9 n9 R9 h9 tk9 S9 e9 m9 sub9 lt9  F9 N9; (try dsimp only); (try k_fold)))
      | (k_unfold; (try dsimp only))
      | (k_end; wrow_close)
      | walk1
      | (dsimp only; walk1)
      | (leave1; walk_say "STEP leave1"; try dsimp only))
    all_goals (first
      | (refine' ask_end hret ?kF ?kN ?hl ?hv ?al ?sl ?hs; (case kF => k_asm); (case kN => k_asm); (case hl => k_mem); (case hv => ((try simp only [List.nil_append]); first | with_reducible assumption | exact StrsAre.nil | exact StrsAre.cons _ _ StrsAre.nil | exact StrsAre_app (by with_reducible assumption) (by with_reducible assumption) | exact StrsAre_app (StrsAre_app (by with_reducible assumption) (by with_reducible assumption)) (by with_reducible assumption))); (case al => first | tbn_find | exact allLt_of (by with_reducible assumption)); (case sl => intro p hp; k_mem); (case hs => intro p hp; k_mem))
      | skip)
    all_goals w_report)
set_option maxHeartbeats 8000000 in
theorem h_null  : Asks 28 .null 3 [] := by
  intro w mean mg mb q news hR
  unfold Does
  w_top off
  k_fill
  intro dp un gd cn cs a₀ ccd cl outer A₀ base h₀ L m s Q E B F X N T hk hroom hun hret
  cases hR
  rename_i hm
  w_strict (
    refine wpAny_call ?_
    k_dflt ktr_enter
    repeat' (first
      | ((with_reducible show wpAny _ _ (call (Value.ref _) _) _ _ _); first
        | (k_dflt (refine' use_ask3 ?kA ?k1 ?k2 ?k3 ?k4 ?k5 ?kK ?hR ?hs ?f0 ?f1 ?f2 ?kd ?ku ?_; (case k1 => k_asm); (case k2 => k_asm); (case k3 => k_asm); (case k4 => k_asm); (case k5 => k_asm); (case kK => first | exact rfl | assumption); (case hR => with_reducible assumption); (case kA => with_reducible assumption); (case hs => intro p hp; k_mem); (case f0 => k_all); (case f1 => k_all); (case f2 => k_all); (case kd => ktr_room); (case ku => ktr_units)); intro l9 vs9 n9 R9 h9 tk9 S9 e9 m9 sub9 lt9 g0 g1 g2 F9 N9; (try dsimp only); (try k_fold))
        | (k_dflt (refine' use_ask0 ?kA ?k1 ?k2 ?k3 ?k4 ?k5 ?kK ?hR ?hs  ?kd ?ku ?_; (case k1 => k_asm); (case k2 => k_asm); (case k3 => k_asm); (case k4 => k_asm); (case k5 => k_asm); (case kK => first | exact rfl | assumption); (case hR => with_reducible assumption); (case kA => with_reducible assumption); (case hs => intro p hp; k_mem); (case kd => ktr_room); (case ku => ktr_units)); intro l9 vs9 n9 R9 h9 tk9 S9 e9 m9 sub9 lt9  F9 N9; (try dsimp only); (try k_fold)))
      | (k_unfold; (try dsimp only))
      | (k_end; wrow_close)
      | walk1
      | (dsimp only; walk1)
      | (leave1; walk_say "STEP leave1"; try dsimp only))
    all_goals (first
      | (refine' ask_end hret ?kF ?kN ?hl ?hv ?al ?sl ?hs; (case kF => k_asm); (case kN => k_asm); (case hl => k_mem); (case hv => ((try simp only [List.nil_append]); first | with_reducible assumption | exact StrsAre.nil | exact StrsAre.cons _ _ StrsAre.nil | exact StrsAre_app (by with_reducible assumption) (by with_reducible assumption) | exact StrsAre_app (StrsAre_app (by with_reducible assumption) (by with_reducible assumption)) (by with_reducible assumption))); (case al => first | tbn_find | exact allLt_of (by with_reducible assumption)); (case sl => intro p hp; k_mem); (case hs => intro p hp; k_mem))
      | skip)
    all_goals w_report)
set_option maxHeartbeats 8000000 in
theorem h_item  : Asks 28 .item 3 [] := by
  intro w mean mg mb q news hR
  unfold Does
  w_top off
  k_fill
  intro dp un gd cn cs a₀ ccd cl outer A₀ base h₀ L m s Q E B F X N T hk hroom hun hret
  cases hR
  rename_i hm
  w_strict (
    refine wpAny_call ?_
    k_dflt ktr_enter
    repeat' (first
      | ((with_reducible show wpAny _ _ (call (Value.ref _) _) _ _ _); first
        | (k_dflt (refine' use_ask3 ?kA ?k1 ?k2 ?k3 ?k4 ?k5 ?kK ?hR ?hs ?f0 ?f1 ?f2 ?kd ?ku ?_; (case k1 => k_asm); (case k2 => k_asm); (case k3 => k_asm); (case k4 => k_asm); (case k5 => k_asm); (case kK => first | exact rfl | assumption); (case hR => with_reducible assumption); (case kA => with_reducible assumption); (case hs => intro p hp; k_mem); (case f0 => k_all); (case f1 => k_all); (case f2 => k_all); (case kd => ktr_room); (case ku => ktr_units)); intro l9 vs9 n9 R9 h9 tk9 S9 e9 m9 sub9 lt9 g0 g1 g2 F9 N9; (try dsimp only); (try k_fold))
        | (k_dflt (refine' use_ask0 ?kA ?k1 ?k2 ?k3 ?k4 ?k5 ?kK ?hR ?hs  ?kd ?ku ?_; (case k1 => k_asm); (case k2 => k_asm); (case k3 => k_asm); (case k4 => k_asm); (case k5 => k_asm); (case kK => first | exact rfl | assumption); (case hR => with_reducible assumption); (case kA => with_reducible assumption); (case hs => intro p hp; k_mem); (case kd => ktr_room); (case ku => ktr_units)); intro l9 vs9 n9 R9 h9 tk9 S9 e9 m9 sub9 lt9  F9 N9; (try dsimp only); (try k_fold)))
      | (k_unfold; (try dsimp only))
      | (k_end; wrow_close)
      | walk1
      | (dsimp only; walk1)
      | (leave1; walk_say "STEP leave1"; try dsimp only))
    all_goals (first
      | (refine' ask_end hret ?kF ?kN ?hl ?hv ?al ?sl ?hs; (case kF => k_asm); (case kN => k_asm); (case hl => k_mem); (case hv => ((try simp only [List.nil_append]); first | with_reducible assumption | exact StrsAre.nil | exact StrsAre.cons _ _ StrsAre.nil | exact StrsAre_app (by with_reducible assumption) (by with_reducible assumption) | exact StrsAre_app (StrsAre_app (by with_reducible assumption) (by with_reducible assumption)) (by with_reducible assumption))); (case al => first | tbn_find | exact allLt_of (by with_reducible assumption)); (case sl => intro p hp; k_mem); (case hs => intro p hp; k_mem))
      | skip)
    all_goals w_report)
set_option maxHeartbeats 8000000 in
theorem h_join {a b : Tr} : Asks 28 (.join a b) 3 [] := by
  intro w mean mg mb q news hR
  unfold Does
  w_top off
  k_fill
  intro dp un gd cn cs a₀ ccd cl outer A₀ base h₀ L m s Q E B F X N T hk hroom hun hret
  cases hR
  rename_i hm hu hv
  w_strict (
    refine wpAny_call ?_
    k_dflt ktr_enter
    repeat' (first
      | ((with_reducible show wpAny _ _ (call (Value.ref _) _) _ _ _); first
        | (k_dflt (refine' use_ask3 ?kA ?k1 ?k2 ?k3 ?k4 ?k5 ?kK ?hR ?hs ?f0 ?f1 ?f2 ?kd ?ku ?_; (case k1 => k_asm); (case k2 => k_asm); (case k3 => k_asm); (case k4 => k_asm); (case k5 => k_asm); (case kK => first | exact rfl | assumption); (case hR => with_reducible assumption); (case kA => with_reducible assumption); (case hs => intro p hp; k_mem); (case f0 => k_all); (case f1 => k_all); (case f2 => k_all); (case kd => ktr_room); (case ku => ktr_units)); intro l9 vs9 n9 R9 h9 tk9 S9 e9 m9 sub9 lt9 g0 g1 g2 F9 N9; (try dsimp only); (try k_fold))
        | (k_dflt (refine' use_ask0 ?kA ?k1 ?k2 ?k3 ?k4 ?k5 ?kK ?hR ?hs  ?kd ?ku ?_; (case k1 => k_asm); (case k2 => k_asm); (case k3 => k_asm); (case k4 => k_asm); (case k5 => k_asm); (case kK => first | exact rfl | assumption); (case hR => with_reducible assumption); (case kA => with_reducible assumption); (case hs => intro p hp; k_mem); (case kd => ktr_room); (case ku => ktr_units)); intro l9 vs9 n9 R9 h9 tk9 S9 e9 m9 sub9 lt9  F9 N9; (try dsimp only); (try k_fold)))
      | (k_unfold; (try dsimp only))
      | (k_end; wrow_close)
      | walk1
      | (dsimp only; walk1)
      | (leave1; walk_say "STEP leave1"; try dsimp only))
    all_goals (first
      | (refine' ask_end hret ?kF ?kN ?hl ?hv ?al ?sl ?hs; (case kF => k_asm); (case kN => k_asm); (case hl => k_mem); (case hv => ((try simp only [List.nil_append]); first | with_reducible assumption | exact StrsAre.nil | exact StrsAre.cons _ _ StrsAre.nil | exact StrsAre_app (by with_reducible assumption) (by with_reducible assumption) | exact StrsAre_app (StrsAre_app (by with_reducible assumption) (by with_reducible assumption)) (by with_reducible assumption))); (case al => first | tbn_find | exact allLt_of (by with_reducible assumption)); (case sl => intro p hp; k_mem); (case hs => intro p hp; k_mem))
      | skip)
    all_goals w_report)
set_option maxHeartbeats 8000000 in
theorem h_bin {o : BOp} {a b : Tr} : Asks 28 (.bin o a b) 3 [] := by
  intro w mean mg mb q news hR
  unfold Does
  w_top off
  k_fill
  intro dp un gd cn cs a₀ ccd cl outer A₀ base h₀ L m s Q E B F X N T hk hroom hun hret
  cases hR
  rename_i hm ho hu hv
  w_strict (
    refine wpAny_call ?_
    k_dflt ktr_enter
    repeat' (first
      | ((with_reducible show wpAny _ _ (call (Value.ref _) _) _ _ _); first
        | (k_dflt (refine' use_ask3 ?kA ?k1 ?k2 ?k3 ?k4 ?k5 ?kK ?hR ?hs ?f0 ?f1 ?f2 ?kd ?ku ?_; (case k1 => k_asm); (case k2 => k_asm); (case k3 => k_asm); (case k4 => k_asm); (case k5 => k_asm); (case kK => first | exact rfl | assumption); (case hR => with_reducible assumption); (case kA => with_reducible assumption); (case hs => intro p hp; k_mem); (case f0 => k_all); (case f1 => k_all); (case f2 => k_all); (case kd => ktr_room); (case ku => ktr_units)); intro l9 vs9 n9 R9 h9 tk9 S9 e9 m9 sub9 lt9 g0 g1 g2 F9 N9; (try dsimp only); (try k_fold))
        | (k_dflt (refine' use_ask0 ?kA ?k1 ?k2 ?k3 ?k4 ?k5 ?kK ?hR ?hs  ?kd ?ku ?_; (case k1 => k_asm); (case k2 => k_asm); (case k3 => k_asm); (case k4 => k_asm); (case k5 => k_asm); (case kK => first | exact rfl | assumption); (case hR => with_reducible assumption); (case kA => with_reducible assumption); (case hs => intro p hp; k_mem); (case kd => ktr_room); (case ku => ktr_units)); intro l9 vs9 n9 R9 h9 tk9 S9 e9 m9 sub9 lt9  F9 N9; (try dsimp only); (try k_fold)))
      | (k_unfold; (try dsimp only))
      | (k_end; wrow_close)
      | walk1
      | (dsimp only; walk1)
      | (leave1; walk_say "STEP leave1"; try dsimp only))
    all_goals (first
      | (refine' ask_end hret ?kF ?kN ?hl ?hv ?al ?sl ?hs; (case kF => k_asm); (case kN => k_asm); (case hl => k_mem); (case hv => ((try simp only [List.nil_append]); first | with_reducible assumption | exact StrsAre.nil | exact StrsAre.cons _ _ StrsAre.nil | exact StrsAre_app (by with_reducible assumption) (by with_reducible assumption) | exact StrsAre_app (StrsAre_app (by with_reducible assumption) (by with_reducible assumption)) (by with_reducible assumption))); (case al => first | tbn_find | exact allLt_of (by with_reducible assumption)); (case sl => intro p hp; k_mem); (case hs => intro p hp; k_mem))
      | skip)
    all_goals w_report)
set_option maxHeartbeats 8000000 in
theorem h_call0  : Asks 28 .call0 3 [] := by
  intro w mean mg mb q news hR
  unfold Does
  w_top off
  k_fill
  intro dp un gd cn cs a₀ ccd cl outer A₀ base h₀ L m s Q E B F X N T hk hroom hun hret
  cases hR
  rename_i hm hp
  w_strict (
    refine wpAny_call ?_
    k_dflt ktr_enter
    repeat' (first
      | ((with_reducible show wpAny _ _ (call (Value.ref _) _) _ _ _); first
        | (k_dflt (refine' use_ask3 ?kA ?k1 ?k2 ?k3 ?k4 ?k5 ?kK ?hR ?hs ?f0 ?f1 ?f2 ?kd ?ku ?_; (case k1 => k_asm); (case k2 => k_asm); (case k3 => k_asm); (case k4 => k_asm); (case k5 => k_asm); (case kK => first | exact rfl | assumption); (case hR => with_reducible assumption); (case kA => with_reducible assumption); (case hs => intro p hp; k_mem); (case f0 => k_all); (case f1 => k_all); (case f2 => k_all); (case kd => ktr_room); (case ku => ktr_units)); intro l9 vs9 n9 R9 h9 tk9 S9 e9 m9 sub9 lt9 g0 g1 g2 F9 N9; (try dsimp only); (try k_fold))
        | (k_dflt (refine' use_ask0 ?kA ?k1 ?k2 ?k3 ?k4 ?k5 ?kK ?hR ?hs  ?kd ?ku ?_; (case k1 => k_asm); (case k2 => k_asm); (case k3 => k_asm); (case k4 => k_asm); (case k5 => k_asm); (case kK => first | exact rfl | assumption); (case hR => with_reducible assumption); (case kA => with_reducible assumption); (case hs => intro p hp; k_mem); (case kd => ktr_room); (case ku => ktr_units)); intro l9 vs9 n9 R9 h9 tk9 S9 e9 m9 sub9 lt9  F9 N9; (try dsimp only); (try k_fold)))
      | (k_unfold; (try dsimp only))
      | (k_end; wrow_close)
      | walk1
      | (dsimp only; walk1)
      | (leave1; walk_say "STEP leave1"; try dsimp only))
    all_goals (first
      | (refine' ask_end hret ?kF ?kN ?hl ?hv ?al ?sl ?hs; (case kF => k_asm); (case kN => k_asm); (case hl => k_mem); (case hv => ((try simp only [List.nil_append]); first | with_reducible assumption | exact StrsAre.nil | exact StrsAre.cons _ _ StrsAre.nil | exact StrsAre_app (by with_reducible assumption) (by with_reducible assumption) | exact StrsAre_app (StrsAre_app (by with_reducible assumption) (by with_reducible assumption)) (by with_reducible assumption))); (case al => first | tbn_find | exact allLt_of (by with_reducible assumption)); (case sl => intro p hp; k_mem); (case hs => intro p hp; k_mem))
      | skip)
    all_goals w_report)
set_option maxHeartbeats 8000000 in
theorem h_call1 {a : Tr} : Asks 28 (.call1 a) 3 [] := by
  intro w mean mg mb q news hR
  unfold Does
  w_top off
  k_fill
  intro dp un gd cn cs a₀ ccd cl outer A₀ base h₀ L m s Q E B F X N T hk hroom hun hret
  cases hR
  rename_i hm hp hu
  w_strict (
    refine wpAny_call ?_
    k_dflt ktr_enter
    repeat' (first
      | ((with_reducible show wpAny _ _ (call (Value.ref _) _) _ _ _); first
        | (k_dflt (refine' use_ask3 ?kA ?k1 ?k2 ?k3 ?k4 ?k5 ?kK ?hR ?hs ?f0 ?f1 ?f2 ?kd ?ku ?_; (case k1 => k_asm); (case k2 => k_asm); (case k3 => k_asm); (case k4 => k_asm); (case k5 => k_asm); (case kK => first | exact rfl | assumption); (case hR => with_reducible assumption); (case kA => with_reducible assumption); (case hs => intro p hp; k_mem); (case f0 => k_all); (case f1 => k_all); (case f2 => k_all); (case kd => ktr_room); (case ku => ktr_units)); intro l9 vs9 n9 R9 h9 tk9 S9 e9 m9 sub9 lt9 g0 g1 g2 F9 N9; (try dsimp only); (try k_fold))
        | (k_dflt (refine' use_ask0 ?kA ?k1 ?k2 ?k3 ?k4 ?k5 ?kK ?hR ?hs  ?kd ?ku ?_; (case k1 => k_asm); (case k2 => k_asm); (case k3 => k_asm); (case k4 => k_asm); (case k5 => k_asm); (case kK => first | exact rfl | assumption); (case hR => with_reducible assumption); (case kA => with_reducible assumption); (case hs => intro p hp; k_mem); (case kd => ktr_room); (case ku => ktr_units)); intro l9 vs9 n9 R9 h9 tk9 S9 e9 m9 sub9 lt9  F9 N9; (try dsimp only); (try k_fold)))
      | (k_unfold; (try dsimp only))
      | (k_end; wrow_close)
      | walk1
      | (dsimp only; walk1)
      | (leave1; walk_say "STEP leave1"; try dsimp only))
    all_goals (first
      | (refine' ask_end hret ?kF ?kN ?hl ?hv ?al ?sl ?hs; (case kF => k_asm); (case kN => k_asm); (case hl => k_mem); (case hv => ((try simp only [List.nil_append]); first | with_reducible assumption | exact StrsAre.nil | exact StrsAre.cons _ _ StrsAre.nil | exact StrsAre_app (by with_reducible assumption) (by with_reducible assumption) | exact StrsAre_app (StrsAre_app (by with_reducible assumption) (by with_reducible assumption)) (by with_reducible assumption))); (case al => first | tbn_find | exact allLt_of (by with_reducible assumption)); (case sl => intro p hp; k_mem); (case hs => intro p hp; k_mem))
      | skip)
    all_goals w_report)
set_option maxHeartbeats 8000000 in
theorem h_call2 {a b : Tr} : Asks 28 (.call2 a b) 3 [] := by
  intro w mean mg mb q news hR
  unfold Does
  w_top off
  k_fill
  intro dp un gd cn cs a₀ ccd cl outer A₀ base h₀ L m s Q E B F X N T hk hroom hun hret
  cases hR
  rename_i hm hp hu hv
  w_strict (
    refine wpAny_call ?_
    k_dflt ktr_enter
    repeat' (first
      | ((with_reducible show wpAny _ _ (call (Value.ref _) _) _ _ _); first
        | (k_dflt (refine' use_ask3 ?kA ?k1 ?k2 ?k3 ?k4 ?k5 ?kK ?hR ?hs ?f0 ?f1 ?f2 ?kd ?ku ?_; (case k1 => k_asm); (case k2 => k_asm); (case k3 => k_asm); (case k4 => k_asm); (case k5 => k_asm); (case kK => first | exact rfl | assumption); (case hR => with_reducible assumption); (case kA => with_reducible assumption); (case hs => intro p hp; k_mem); (case f0 => k_all); (case f1 => k_all); (case f2 => k_all); (case kd => ktr_room); (case ku => ktr_units)); intro l9 vs9 n9 R9 h9 tk9 S9 e9 m9 sub9 lt9 g0 g1 g2 F9 N9; (try dsimp only); (try k_fold))
        | (k_dflt (refine' use_ask0 ?kA ?k1 ?k2 ?k3 ?k4 ?k5 ?kK ?hR ?hs  ?kd ?ku ?_; (case k1 => k_asm); (case k2 => k_asm); (case k3 => k_asm); (case k4 => k_asm); (case k5 => k_asm); (case kK => first | exact rfl | assumption); (case hR => with_reducible assumption); (case kA => with_reducible assumption); (case hs => intro p hp; k_mem); (case kd => ktr_room); (case ku => ktr_units)); intro l9 vs9 n9 R9 h9 tk9 S9 e9 m9 sub9 lt9  F9 N9; (try dsimp only); (try k_fold)))
      | (k_unfold; (try dsimp only))
      | (k_end; wrow_close)
      | walk1
      | (dsimp only; walk1)
      | (leave1; walk_say "STEP leave1"; try dsimp only))
    all_goals (first
      | (refine' ask_end hret ?kF ?kN ?hl ?hv ?al ?sl ?hs; (case kF => k_asm); (case kN => k_asm); (case hl => k_mem); (case hv => ((try simp only [List.nil_append]); first | with_reducible assumption | exact StrsAre.nil | exact StrsAre.cons _ _ StrsAre.nil | exact StrsAre_app (by with_reducible assumption) (by with_reducible assumption) | exact StrsAre_app (StrsAre_app (by with_reducible assumption) (by with_reducible assumption)) (by with_reducible assumption))); (case al => first | tbn_find | exact allLt_of (by with_reducible assumption)); (case sl => intro p hp; k_mem); (case hs => intro p hp; k_mem))
      | skip)
    all_goals w_report)
set_option maxHeartbeats 8000000 in
theorem b_unaL {a : Tr} : BehY a := by
  intro w mean mg mb q news hR
  unfold Does
  w_top off
  k_fill
  intro dp un gd cn cs a₀ ccd cl outer A₀ base h₀ L m s Q E B F X N T hk hroom hun hret
  cases hR
  rename_i hm ho hu
  cases ho
  w_strict (
    refine wpAny_call ?_
    k_dflt ktr_enter
    repeat' (first
      | (k_unfold; (try dsimp only))
      | (k_end; wrow_close)
      | walk1
      | (dsimp only; walk1)
      | (leave1; walk_say "STEP leave1"; try dsimp only))
    all_goals (first
      | (refine' behN_end hret ?kF ?kN ?hl ?al ?sl ?hs; (case kF => k_asm); (case kN => k_asm); (case hl => k_mem); (case al => first | tbn_find | exact allLt_of (by with_reducible assumption)); (case sl => intro p hp; k_mem); (case hs => intro p hp; k_mem))
      | (refine' behY_end hret ?kF ?kN ?hl ?hv ?al ?sl ?hs; (case kF => k_asm); (case kN => k_asm); (case hl => k_mem); (case hv => with_reducible assumption); (case al => first | tbn_find | exact allLt_of (by with_reducible assumption)); (case sl => intro p hp; k_mem); (case hs => intro p hp; k_mem))
      | skip)
    all_goals w_report)
set_option maxHeartbeats 8000000 in
theorem b_unaS {a : Tr} : BehN (.una .star a) := by
  intro w mean mg mb q news hR
  unfold Does
  w_top off
  k_fill
  intro dp un gd cn cs a₀ ccd cl outer A₀ base h₀ L m s Q E B F X N T hk hroom hun hret
  cases hR
  rename_i hm ho hu
  cases ho
  w_strict (
    refine wpAny_call ?_
    k_dflt ktr_enter
    repeat' (first
      | (k_unfold; (try dsimp only))
      | (k_end; wrow_close)
      | walk1
      | (dsimp only; walk1)
      | (leave1; walk_say "STEP leave1"; try dsimp only))
    all_goals (first
      | (refine' behN_end hret ?kF ?kN ?hl ?al ?sl ?hs; (case kF => k_asm); (case kN => k_asm); (case hl => k_mem); (case al => first | tbn_find | exact allLt_of (by with_reducible assumption)); (case sl => intro p hp; k_mem); (case hs => intro p hp; k_mem))
      | (refine' behY_end hret ?kF ?kN ?hl ?hv ?al ?sl ?hs; (case kF => k_asm); (case kN => k_asm); (case hl => k_mem); (case hv => with_reducible assumption); (case al => first | tbn_find | exact allLt_of (by with_reducible assumption)); (case sl => intro p hp; k_mem); (case hs => intro p hp; k_mem))
      | skip)
    all_goals w_report)
set_option maxHeartbeats 8000000 in
theorem b_unaD {a : Tr} : BehN (.una .told a) := by
  intro w mean mg mb q news hR
  unfold Does
  w_top off
  k_fill
  intro dp un gd cn cs a₀ ccd cl outer A₀ base h₀ L m s Q E B F X N T hk hroom hun hret
  cases hR
  rename_i hm ho hu
  obtain ⟨o1, o2, o3⟩ := ho
  w_strict (
    refine wpAny_call ?_
    k_dflt ktr_enter
    repeat' (first
      | (k_unfold; (try dsimp only))
      | (k_end; wrow_close)
      | walk1
      | (dsimp only; walk1)
      | (leave1; walk_say "STEP leave1"; try dsimp only))
    all_goals (first
      | (refine' behN_end hret ?kF ?kN ?hl ?al ?sl ?hs; (case kF => k_asm); (case kN => k_asm); (case hl => k_mem); (case al => first | tbn_find | exact allLt_of (by with_reducible assumption)); (case sl => intro p hp; k_mem); (case hs => intro p hp; k_mem))
      | (refine' behY_end hret ?kF ?kN ?hl ?hv ?al ?sl ?hs; (case kF => k_asm); (case kN => k_asm); (case hl => k_mem); (case hv => with_reducible assumption); (case al => first | tbn_find | exact allLt_of (by with_reducible assumption)); (case sl => intro p hp; k_mem); (case hs => intro p hp; k_mem))
      | skip)
    all_goals w_report)
set_option maxHeartbeats 8000000 in
theorem b_unaP {a : Tr} : BehN (.una .plain a) := by
  intro w mean mg mb q news hR
  unfold Does
  w_top off
  k_fill
  intro dp un gd cn cs a₀ ccd cl outer A₀ base h₀ L m s Q E B F X N T hk hroom hun hret
  cases hR
  rename_i hm ho hu
  obtain ⟨o1, o2, o3⟩ := ho
  w_strict (
    refine wpAny_call ?_
    k_dflt ktr_enter
    repeat' (first
      | (k_unfold; (try dsimp only))
      | (k_end; wrow_close)
      | walk1
      | (dsimp only; walk1)
      | (leave1; walk_say "STEP leave1"; try dsimp only))
    all_goals (first
      | (refine' behN_end hret ?kF ?kN ?hl ?al ?sl ?hs; (case kF => k_asm); (case kN => k_asm); (case hl => k_mem); (case al => first | tbn_find | exact allLt_of (by with_reducible assumption)); (case sl => intro p hp; k_mem); (case hs => intro p hp; k_mem))
      | (refine' behY_end hret ?kF ?kN ?hl ?hv ?al ?sl ?hs; (case kF => k_asm); (case kN => k_asm); (case hl => k_mem); (case hv => with_reducible assumption); (case al => first | tbn_find | exact allLt_of (by with_reducible assumption)); (case sl => intro p hp; k_mem); (case hs => intro p hp; k_mem))
      | skip)
    all_goals w_report)
set_option maxHeartbeats 8000000 in
theorem b_name {x : Str} : BehN (.name x) := by
  intro w mean mg mb q news hR
  unfold Does
  w_top off
  k_fill
  intro dp un gd cn cs a₀ ccd cl outer A₀ base h₀ L m s Q E B F X N T hk hroom hun hret
  cases hR
  rename_i hm
  w_strict (
    refine wpAny_call ?_
    k_dflt ktr_enter
    repeat' (first
      | (k_unfold; (try dsimp only))
      | (k_end; wrow_close)
      | walk1
      | (dsimp only; walk1)
      | (leave1; walk_say "STEP leave1"; try dsimp only))
    all_goals (first
      | (refine' behN_end hret ?kF ?kN ?hl ?al ?sl ?hs; (case kF => k_asm); (case kN => k_asm); (case hl => k_mem); (case al => first | tbn_find | exact allLt_of (by with_reducible assumption)); (case sl => intro p hp; k_mem); (case hs => intro p hp; k_mem))
      | (refine' behY_end hret ?kF ?kN ?hl ?hv ?al ?sl ?hs; (case kF => k_asm); (case kN => k_asm); (case hl => k_mem); (case hv => with_reducible assumption); (case al => first | tbn_find | exact allLt_of (by with_reducible assumption)); (case sl => intro p hp; k_mem); (case hs => intro p hp; k_mem))
      | skip)
    all_goals w_report)
set_option maxHeartbeats 8000000 in
theorem b_text  : BehN .text := by
  intro w mean mg mb q news hR
  unfold Does
  w_top off
  k_fill
  intro dp un gd cn cs a₀ ccd cl outer A₀ base h₀ L m s Q E B F X N T hk hroom hun hret
  cases hR
  rename_i hm
  w_strict (
    refine wpAny_call ?_
    k_dflt ktr_enter
    repeat' (first
      | (k_unfold; (try dsimp only))
      | (k_end; wrow_close)
      | walk1
      | (dsimp only; walk1)
      | (leave1; walk_say "STEP leave1"; try dsimp only))
    all_goals (first
      | (refine' behN_end hret ?kF ?kN ?hl ?al ?sl ?hs; (case kF => k_asm); (case kN => k_asm); (case hl => k_mem); (case al => first | tbn_find | exact allLt_of (by with_reducible assumption)); (case sl => intro p hp; k_mem); (case hs => intro p hp; k_mem))
      | (refine' behY_end hret ?kF ?kN ?hl ?hv ?al ?sl ?hs; (case kF => k_asm); (case kN => k_asm); (case hl => k_mem); (case hv => with_reducible assumption); (case al => first | tbn_find | exact allLt_of (by with_reducible assumption)); (case sl => intro p hp; k_mem); (case hs => intro p hp; k_mem))
      | skip)
    all_goals w_report)
set_option maxHeartbeats 8000000 in
theorem b_whole  : BehN .whole := by
  intro w mean mg mb q news hR
  unfold Does
  w_top off
  k_fill
  intro dp un gd cn cs a₀ ccd cl outer A₀ base h₀ L m s Q E B F X N T hk hroom hun hret
  cases hR
  rename_i hm
  w_strict (
    refine wpAny_call ?_
    k_dflt ktr_enter
    repeat' (first
      | (k_unfold; (try dsimp only))
      | (k_end; wrow_close)
      | walk1
      | (dsimp only; walk1)
      | (leave1; walk_say "STEP leave1"; try dsimp only))
    all_goals (first
      | (refine' behN_end hret ?kF ?kN ?hl ?al ?sl ?hs; (case kF => k_asm); (case kN => k_asm); (case hl => k_mem); (case al => first | tbn_find | exact allLt_of (by with_reducible assumption)); (case sl => intro p hp; k_mem); (case hs => intro p hp; k_mem))
      | (refine' behY_end hret ?kF ?kN ?hl ?hv ?al ?sl ?hs; (case kF => k_asm); (case kN => k_asm); (case hl => k_mem); (case hv => with_reducible assumption); (case al => first | tbn_find | exact allLt_of (by with_reducible assumption)); (case sl => intro p hp; k_mem); (case hs => intro p hp; k_mem))
      | skip)
    all_goals w_report)
set_option maxHeartbeats 8000000 in
theorem b_null  : BehN .null := by
  intro w mean mg mb q news hR
  unfold Does
  w_top off
  k_fill
  intro dp un gd cn cs a₀ ccd cl outer A₀ base h₀ L m s Q E B F X N T hk hroom hun hret
  cases hR
  rename_i hm
  w_strict (
    refine wpAny_call ?_
    k_dflt ktr_enter
    repeat' (first
      | (k_unfold; (try dsimp only))
      | (k_end; wrow_close)
      | walk1
      | (dsimp only; walk1)
      | (leave1; walk_say "STEP leave1"; try dsimp only))
    all_goals (first
      | (refine' behN_end hret ?kF ?kN ?hl ?al ?sl ?hs; (case kF => k_asm); (case kN => k_asm); (case hl => k_mem); (case al => first | tbn_find | exact allLt_of (by with_reducible assumption)); (case sl => intro p hp; k_mem); (case hs => intro p hp; k_mem))
      | (refine' behY_end hret ?kF ?kN ?hl ?hv ?al ?sl ?hs; (case kF => k_asm); (case kN => k_asm); (case hl => k_mem); (case hv => with_reducible assumption); (case al => first | tbn_find | exact allLt_of (by with_reducible assumption)); (case sl => intro p hp; k_mem); (case hs => intro p hp; k_mem))
      | skip)
    all_goals w_report)
set_option maxHeartbeats 8000000 in
theorem b_item  : BehN .item := by
  intro w mean mg mb q news hR
  unfold Does
  w_top off
  k_fill
  intro dp un gd cn cs a₀ ccd cl outer A₀ base h₀ L m s Q E B F X N T hk hroom hun hret
  cases hR
  rename_i hm
  w_strict (
    refine wpAny_call ?_
    k_dflt ktr_enter
    repeat' (first
      | (k_unfold; (try dsimp only))
      | (k_end; wrow_close)
      | walk1
      | (dsimp only; walk1)
      | (leave1; walk_say "STEP leave1"; try dsimp only))
    all_goals (first
      | (refine' behN_end hret ?kF ?kN ?hl ?al ?sl ?hs; (case kF => k_asm); (case kN => k_asm); (case hl => k_mem); (case al => first | tbn_find | exact allLt_of (by with_reducible assumption)); (case sl => intro p hp; k_mem); (case hs => intro p hp; k_mem))
      | (refine' behY_end hret ?kF ?kN ?hl ?hv ?al ?sl ?hs; (case kF => k_asm); (case kN => k_asm); (case hl => k_mem); (case hv => with_reducible assumption); (case al => first | tbn_find | exact allLt_of (by with_reducible assumption)); (case sl => intro p hp; k_mem); (case hs => intro p hp; k_mem))
      | skip)
    all_goals w_report)
set_option maxHeartbeats 8000000 in
theorem b_join {a b : Tr} : BehN (.join a b) := by
  intro w mean mg mb q news hR
  unfold Does
  w_top off
  k_fill
  intro dp un gd cn cs a₀ ccd cl outer A₀ base h₀ L m s Q E B F X N T hk hroom hun hret
  cases hR
  rename_i hm hu hv
  w_strict (
    refine wpAny_call ?_
    k_dflt ktr_enter
    repeat' (first
      | (k_unfold; (try dsimp only))
      | (k_end; wrow_close)
      | walk1
      | (dsimp only; walk1)
      | (leave1; walk_say "STEP leave1"; try dsimp only))
    all_goals (first
      | (refine' behN_end hret ?kF ?kN ?hl ?al ?sl ?hs; (case kF => k_asm); (case kN => k_asm); (case hl => k_mem); (case al => first | tbn_find | exact allLt_of (by with_reducible assumption)); (case sl => intro p hp; k_mem); (case hs => intro p hp; k_mem))
      | (refine' behY_end hret ?kF ?kN ?hl ?hv ?al ?sl ?hs; (case kF => k_asm); (case kN => k_asm); (case hl => k_mem); (case hv => with_reducible assumption); (case al => first | tbn_find | exact allLt_of (by with_reducible assumption)); (case sl => intro p hp; k_mem); (case hs => intro p hp; k_mem))
      | skip)
    all_goals w_report)
set_option maxHeartbeats 8000000 in
theorem b_bin {o : BOp} {a b : Tr} : BehN (.bin o a b) := by
  intro w mean mg mb q news hR
  unfold Does
  w_top off
  k_fill
  intro dp un gd cn cs a₀ ccd cl outer A₀ base h₀ L m s Q E B F X N T hk hroom hun hret
  cases hR
  rename_i hm ho hu hv
  w_strict (
    refine wpAny_call ?_
    k_dflt ktr_enter
    repeat' (first
      | (k_unfold; (try dsimp only))
      | (k_end; wrow_close)
      | walk1
      | (dsimp only; walk1)
      | (leave1; walk_say "STEP leave1"; try dsimp only))
    all_goals (first
      | (refine' behN_end hret ?kF ?kN ?hl ?al ?sl ?hs; (case kF => k_asm); (case kN => k_asm); (case hl => k_mem); (case al => first | tbn_find | exact allLt_of (by with_reducible assumption)); (case sl => intro p hp; k_mem); (case hs => intro p hp; k_mem))
      | (refine' behY_end hret ?kF ?kN ?hl ?hv ?al ?sl ?hs; (case kF => k_asm); (case kN => k_asm); (case hl => k_mem); (case hv => with_reducible assumption); (case al => first | tbn_find | exact allLt_of (by with_reducible assumption)); (case sl => intro p hp; k_mem); (case hs => intro p hp; k_mem))
      | skip)
    all_goals w_report)
set_option maxHeartbeats 8000000 in
theorem b_call0  : BehN .call0 := by
  intro w mean mg mb q news hR
  unfold Does
  w_top off
  k_fill
  intro dp un gd cn cs a₀ ccd cl outer A₀ base h₀ L m s Q E B F X N T hk hroom hun hret
  cases hR
  rename_i hm hp
  w_strict (
    refine wpAny_call ?_
    k_dflt ktr_enter
    repeat' (first
      | (k_unfold; (try dsimp only))
      | (k_end; wrow_close)
      | walk1
      | (dsimp only; walk1)
      | (leave1; walk_say "STEP leave1"; try dsimp only))
    all_goals (first
      | (refine' behN_end hret ?kF ?kN ?hl ?al ?sl ?hs; (case kF => k_asm); (case kN => k_asm); (case hl => k_mem); (case al => first | tbn_find | exact allLt_of (by with_reducible assumption)); (case sl => intro p hp; k_mem); (case hs => intro p hp; k_mem))
      | (refine' behY_end hret ?kF ?kN ?hl ?hv ?al ?sl ?hs; (case kF => k_asm); (case kN => k_asm); (case hl => k_mem); (case hv => with_reducible assumption); (case al => first | tbn_find | exact allLt_of (by with_reducible assumption)); (case sl => intro p hp; k_mem); (case hs => intro p hp; k_mem))
      | skip)
    all_goals w_report)
set_option maxHeartbeats 8000000 in
theorem b_call1 {a : Tr} : BehN (.call1 a) := by
  intro w mean mg mb q news hR
  unfold Does
  w_top off
  k_fill
  intro dp un gd cn cs a₀ ccd cl outer A₀ base h₀ L m s Q E B F X N T hk hroom hun hret
  cases hR
  rename_i hm hp hu
  w_strict (
    refine wpAny_call ?_
    k_dflt ktr_enter
    repeat' (first
      | (k_unfold; (try dsimp only))
      | (k_end; wrow_close)
      | walk1
      | (dsimp only; walk1)
      | (leave1; walk_say "STEP leave1"; try dsimp only))
    all_goals (first
      | (refine' behN_end hret ?kF ?kN ?hl ?al ?sl ?hs; (case kF => k_asm); (case kN => k_asm); (case hl => k_mem); (case al => first | tbn_find | exact allLt_of (by with_reducible assumption)); (case sl => intro p hp; k_mem); (case hs => intro p hp; k_mem))
      | (refine' behY_end hret ?kF ?kN ?hl ?hv ?al ?sl ?hs; (case kF => k_asm); (case kN => k_asm); (case hl => k_mem); (case hv => with_reducible assumption); (case al => first | tbn_find | exact allLt_of (by with_reducible assumption)); (case sl => intro p hp; k_mem); (case hs => intro p hp; k_mem))
      | skip)
    all_goals w_report)
set_option maxHeartbeats 8000000 in
theorem b_call2 {a b : Tr} : BehN (.call2 a b) := by
  intro w mean mg mb q news hR
  unfold Does
  w_top off
  k_fill
  intro dp un gd cn cs a₀ ccd cl outer A₀ base h₀ L m s Q E B F X N T hk hroom hun hret
  cases hR
  rename_i hm hp hu hv
  w_strict (
    refine wpAny_call ?_
    k_dflt ktr_enter
    repeat' (first
      | (k_unfold; (try dsimp only))
      | (k_end; wrow_close)
      | walk1
      | (dsimp only; walk1)
      | (leave1; walk_say "STEP leave1"; try dsimp only))
    all_goals (first
      | (refine' behN_end hret ?kF ?kN ?hl ?al ?sl ?hs; (case kF => k_asm); (case kN => k_asm); (case hl => k_mem); (case al => first | tbn_find | exact allLt_of (by with_reducible assumption)); (case sl => intro p hp; k_mem); (case hs => intro p hp; k_mem))
      | (refine' behY_end hret ?kF ?kN ?hl ?hv ?al ?sl ?hs; (case kF => k_asm); (case kN => k_asm); (case hl => k_mem); (case hv => with_reducible assumption); (case al => first | tbn_find | exact allLt_of (by with_reducible assumption)); (case sl => intro p hp; k_mem); (case hs => intro p hp; k_mem))
      | skip)
    all_goals w_report)
set_option maxHeartbeats 8000000 in
theorem l_name {x : Str} : Asks 61 (.name x) 3 [x] := by
  intro w mean mg mb q news hR
  unfold Does
  w_top off
  k_fill
  intro dp un gd cn cs a₀ ccd cl outer A₀ base h₀ L m s Q E B F X N T hk hroom hun hret
  cases hR
  rename_i hm
  w_strict (
    refine wpAny_call ?_
    k_dflt ktr_enter
    repeat' (first
      | ((with_reducible show wpAny _ _ (call (Value.ref _) _) _ _ _); first
        | (k_dflt (refine' use_behY ?kA ?k1 ?k2 ?k3 ?k4 ?k5 ?kK ?hR ?hs ?kd ?ku ?_; (case k1 => k_asm); (case k2 => k_asm); (case k3 => k_asm); (case k4 => k_asm); (case k5 => k_asm); (case kK => first | exact rfl | assumption); (case hR => with_reducible assumption); (case kA => with_reducible assumption); (case hs => intro p hp; k_mem); (case kd => ktr_room); (case ku => ktr_units)); intro l9 u9 n9 R9 h9 tk9 r9 m9 sub9 lt9 F9 N9; (try dsimp only); (try k_fold))
        | (k_dflt (refine' use_behN ?kA ?k1 ?k2 ?k3 ?k4 ?k5 ?kK ?hR ?hs ?kd ?ku ?_; (case k1 => k_asm); (case k2 => k_asm); (case k3 => k_asm); (case k4 => k_asm); (case k5 => k_asm); (case kK => first | exact rfl | assumption); (case hR => with_reducible assumption); (case kA => with_reducible assumption); (case hs => intro p hp; k_mem); (case kd => ktr_room); (case ku => ktr_units)); intro l9 n9 R9 h9 tk9 m9 sub9 lt9 F9 N9; (try dsimp only); (try k_fold))
        | (k_dflt (refine' use_ask3 ?kA ?k1 ?k2 ?k3 ?k4 ?k5 ?kK ?hR ?hs ?f0 ?f1 ?f2 ?kd ?ku ?_; (case k1 => k_asm); (case k2 => k_asm); (case k3 => k_asm); (case k4 => k_asm); (case k5 => k_asm); (case kK => first | exact rfl | assumption); (case hR => with_reducible assumption); (case kA => with_reducible assumption); (case hs => intro p hp; k_mem); (case f0 => k_all); (case f1 => k_all); (case f2 => k_all); (case kd => ktr_room); (case ku => ktr_units)); intro l9 vs9 n9 R9 h9 tk9 S9 e9 m9 sub9 lt9 g0 g1 g2 F9 N9; (try dsimp only); (try k_fold))
        | (k_dflt (refine' use_ask2 ?kA ?k1 ?k2 ?k3 ?k4 ?k5 ?kK ?hR ?hs ?f0 ?f1 ?kd ?ku ?_; (case k1 => k_asm); (case k2 => k_asm); (case k3 => k_asm); (case k4 => k_asm); (case k5 => k_asm); (case kK => first | exact rfl | assumption); (case hR => with_reducible assumption); (case kA => with_reducible assumption); (case hs => intro p hp; k_mem); (case f0 => k_all); (case f1 => k_all); (case kd => ktr_room); (case ku => ktr_units)); intro l9 vs9 n9 R9 h9 tk9 S9 e9 m9 sub9 lt9 g0 g1 F9 N9; (try dsimp only); (try k_fold))
        | (k_dflt (refine' use_ask0 ?kA ?k1 ?k2 ?k3 ?k4 ?k5 ?kK ?hR ?hs  ?kd ?ku ?_; (case k1 => k_asm); (case k2 => k_asm); (case k3 => k_asm); (case k4 => k_asm); (case k5 => k_asm); (case kK => first | exact rfl | assumption); (case hR => with_reducible assumption); (case kA => with_reducible assumption); (case hs => intro p hp; k_mem); (case kd => ktr_room); (case ku => ktr_units)); intro l9 vs9 n9 R9 h9 tk9 S9 e9 m9 sub9 lt9  F9 N9; (try dsimp only); (try k_fold)))
      | (k_unfold; (try dsimp only))
      | (k_end; wrow_close)
      | walk1
      | (dsimp only; walk1)
      | (leave1; walk_say "STEP leave1"; try dsimp only))
    all_goals (first
      | (refine' ask_end hret ?kF ?kN ?hl ?hv ?al ?sl ?hs; (case kF => k_asm); (case kN => k_asm); (case hl => k_mem); (case hv => ((try simp only [List.nil_append]); first | with_reducible assumption | exact StrsAre.nil | exact StrsAre.cons _ _ StrsAre.nil | exact StrsAre_app (by with_reducible assumption) (by with_reducible assumption) | exact StrsAre_app (StrsAre_app (by with_reducible assumption) (by with_reducible assumption)) (by with_reducible assumption))); (case al => first | tbn_find | exact allLt_of (by with_reducible assumption)); (case sl => intro p hp; k_mem); (case hs => intro p hp; k_mem))
      | skip)
    all_goals w_report)
set_option maxHeartbeats 8000000 in
theorem l_text  : Asks 61 .text 3 [] := by
  intro w mean mg mb q news hR
  unfold Does
  w_top off
  k_fill
  intro dp un gd cn cs a₀ ccd cl outer A₀ base h₀ L m s Q E B F X N T hk hroom hun hret
  cases hR
  rename_i hm
  w_strict (
    refine wpAny_call ?_
    k_dflt ktr_enter
    repeat' (first
      | ((with_reducible show wpAny _ _ (call (Value.ref _) _) _ _ _); first
        | (k_dflt (refine' use_behY ?kA ?k1 ?k2 ?k3 ?k4 ?k5 ?kK ?hR ?hs ?kd ?ku ?_; (case k1 => k_asm); (case k2 => k_asm); (case k3 => k_asm); (case k4 => k_asm); (case k5 => k_asm); (case kK => first | exact rfl | assumption); (case hR => with_reducible assumption); (case kA => with_reducible assumption); (case hs => intro p hp; k_mem); (case kd => ktr_room); (case ku => ktr_units)); intro l9 u9 n9 R9 h9 tk9 r9 m9 sub9 lt9 F9 N9; (try dsimp only); (try k_fold))
        | (k_dflt (refine' use_behN ?kA ?k1 ?k2 ?k3 ?k4 ?k5 ?kK ?hR ?hs ?kd ?ku ?_; (case k1 => k_asm); (case k2 => k_asm); (case k3 => k_asm); (case k4 => k_asm); (case k5 => k_asm); (case kK => first | exact rfl | assumption); (case hR => with_reducible assumption); (case kA => with_reducible assumption); (case hs => intro p hp; k_mem); (case kd => ktr_room); (case ku => ktr_units)); intro l9 n9 R9 h9 tk9 m9 sub9 lt9 F9 N9; (try dsimp only); (try k_fold))
        | (k_dflt (refine' use_ask3 ?kA ?k1 ?k2 ?k3 ?k4 ?k5 ?kK ?hR ?hs ?f0 ?f1 ?f2 ?kd ?ku ?_; (case k1 => k_asm); (case k2 => k_asm); (case k3 => k_asm); (case k4 => k_asm); (case k5 => k_asm); (case kK => first | exact rfl | assumption); (case hR => with_reducible assumption); (case kA => with_reducible assumption); (case hs => intro p hp; k_mem); (case f0 => k_all); (case f1 => k_all); (case f2 => k_all); (case kd => ktr_room); (case ku => ktr_units)); intro l9 vs9 n9 R9 h9 tk9 S9 e9 m9 sub9 lt9 g0 g1 g2 F9 N9; (try dsimp only); (try k_fold))
        | (k_dflt (refine' use_ask2 ?kA ?k1 ?k2 ?k3 ?k4 ?k5 ?kK ?hR ?hs ?f0 ?f1 ?kd ?ku ?_; (case k1 => k_asm); (case k2 => k_asm); (case k3 => k_asm); (case k4 => k_asm); (case k5 => k_asm); (case kK => first | exact rfl | assumption); (case hR => with_reducible assumption); (case kA => with_reducible assumption); (case hs => intro p hp; k_mem); (case f0 => k_all); (case f1 => k_all); (case kd => ktr_room); (case ku => ktr_units)); intro l9 vs9 n9 R9 h9 tk9 S9 e9 m9 sub9 lt9 g0 g1 F9 N9; (try dsimp only); (try k_fold))
        | (k_dflt (refine' use_ask0 ?kA ?k1 ?k2 ?k3 ?k4 ?k5 ?kK ?hR ?hs  ?kd ?ku ?_; (case k1 => k_asm); (case k2 => k_asm); (case k3 => k_asm); (case k4 => k_asm); (case k5 => k_asm); (case kK => first | exact rfl | assumption); (case hR => with_reducible assumption); (case kA => with_reducible assumption); (case hs => intro p hp; k_mem); (case kd => ktr_room); (case ku => ktr_units)); intro l9 vs9 n9 R9 h9 tk9 S9 e9 m9 sub9 lt9  F9 N9; (try dsimp only); (try k_fold)))
      | (k_unfold; (try dsimp only))
      | (k_end; wrow_close)
      | walk1
      | (dsimp only; walk1)
      | (leave1; walk_say "STEP leave1"; try dsimp only))
    all_goals (first
      | (refine' ask_end hret ?kF ?kN ?hl ?hv ?al ?sl ?hs; (case kF => k_asm); (case kN => k_asm); (case hl => k_mem); (case hv => ((try simp only [List.nil_append]); first | with_reducible assumption | exact StrsAre.nil | exact StrsAre.cons _ _ StrsAre.nil | exact StrsAre_app (by with_reducible assumption) (by with_reducible assumption) | exact StrsAre_app (StrsAre_app (by with_reducible assumption) (by with_reducible assumption)) (by with_reducible assumption))); (case al => first | tbn_find | exact allLt_of (by with_reducible assumption)); (case sl => intro p hp; k_mem); (case hs => intro p hp; k_mem))
      | skip)
    all_goals w_report)
set_option maxHeartbeats 8000000 in
theorem l_whole  : Asks 61 .whole 3 [] := by
  intro w mean mg mb q news hR
  unfold Does
  w_top off
  k_fill
  intro dp un gd cn cs a₀ ccd cl outer A₀ base h₀ L m s Q E B F X N T hk hroom hun hret
  cases hR
  rename_i hm
  w_strict (
    refine wpAny_call ?_
    k_dflt ktr_enter
    repeat' (first
      | ((with_reducible show wpAny _ _ (call (Value.ref _) _) _ _ _); first
        | (k_dflt (refine' use_behY ?kA ?k1 ?k2 ?k3 ?k4 ?k5 ?kK ?hR ?hs ?kd ?ku ?_; (case k1 => k_asm); (case k2 => k_asm); (case k3 => k_asm); (case k4 => k_asm); (case k5 => k_asm); (case kK => first | exact rfl | assumption); (case hR => with_reducible assumption); (case kA => with_reducible assumption); (case hs => intro p hp; k_mem); (case kd => ktr_room); (case ku => ktr_units)); intro l9 u9 n9 R9 h9 tk9 r9 m9 sub9 lt9 F9 N9; (try dsimp only); (try k_fold))
        | (k_dflt (refine' use_behN ?kA ?k1 ?k2 ?k3 ?k4 ?k5 ?kK ?hR ?hs ?kd ?ku ?_; (case k1 => k_asm); (case k2 => k_asm); (case k3 => k_asm); (case k4 => k_asm); (case k5 => k_asm); (case kK => first | exact rfl | assumption); (case hR => with_reducible assumption); (case kA => with_reducible assumption); (case hs => intro p hp; k_mem); (case kd => ktr_room); (case ku => ktr_units)); intro l9 n9 R9 h9 tk9 m9 sub9 lt9 F9 N9; (try dsimp only); (try k_fold))
        | (k_dflt (refine' use_ask3 ?kA ?k1 ?k2 ?k3 ?k4 ?k5 ?kK ?hR ?hs ?f0 ?f1 ?f2 ?kd ?ku ?_; (case k1 => k_asm); (case k2 => k_asm); (case k3 => k_asm); (case k4 => k_asm); (case k5 => k_asm); (case kK => first | exact rfl | assumption); (case hR => with_reducible assumption); (case kA => with_reducible assumption); (case hs => intro p hp; k_mem); (case f0 => k_all); (case f1 => k_all); (case f2 => k_all); (case kd => ktr_room); (case ku => ktr_units)); intro l9 vs9 n9 R9 h9 tk9 S9 e9 m9 sub9 lt9 g0 g1 g2 F9 N9; (try dsimp only); (try k_fold))
        | (k_dflt (refine' use_ask2 ?kA ?k1 ?k2 ?k3 ?k4 ?k5 ?kK ?hR ?hs ?f0 ?f1 ?kd ?ku ?_; (case k1 => k_asm); (case k2 => k_asm); (case k3 => k_asm); (case k4 => k_asm); (case k5 => k_asm); (case kK => first | exact rfl | assumption); (case hR => with_reducible assumption); (case kA => with_reducible assumption); (case hs => intro p hp; k_mem); (case f0 => k_all); (case f1 => k_all); (case kd => ktr_room); (case ku => ktr_units)); intro l9 vs9 n9 R9 h9 tk9 S9 e9 m9 sub9 lt9 g0 g1 F9 N9; (try dsimp only); (try k_fold))
        | (k_dflt (refine' use_ask0 ?kA ?k1 ?k2 ?k3 ?k4 ?k5 ?kK ?hR ?hs  ?kd ?ku ?_; (case k1 => k_asm); (case k2 => k_asm); (case k3 => k_asm); (case k4 => k_asm); (case k5 => k_asm); (case kK => first | exact rfl | assumption); (case hR => with_reducible assumption); (case kA => with_reducible assumption); (case hs => intro p hp; k_mem); (case kd => ktr_room); (case ku => ktr_units)); intro l9 vs9 n9 R9 h9 tk9 S9 e9 m9 sub9 lt9  F9 N9; (try dsimp only); (try k_fold)))
      | (k_unfold; (try dsimp only))
      | (k_end; wrow_close)
      | walk1
      | (dsimp only; walk1)
      | (leave1; walk_say "STEP leave1"; try dsimp only))
    all_goals (first
      | (refine' ask_end hret ?kF ?kN ?hl ?hv ?al ?sl ?hs; (case kF => k_asm); (case kN => k_asm); (case hl => k_mem); (case hv => ((try simp only [List.nil_append]); first | with_reducible assumption | exact StrsAre.nil | exact StrsAre.cons _ _ StrsAre.nil | exact StrsAre_app (by with_reducible assumption) (by with_reducible assumption) | exact StrsAre_app (StrsAre_app (by with_reducible assumption) (by with_reducible assumption)) (by with_reducible assumption))); (case al => first | tbn_find | exact allLt_of (by with_reducible assumption)); (case sl => intro p hp; k_mem); (case hs => intro p hp; k_mem))
      | skip)
    all_goals w_report)
set_option maxHeartbeats 8000000 in
theorem l_null  : Asks 61 .null 3 [] := by
  intro w mean mg mb q news hR
  unfold Does
  w_top off
  k_fill
  intro dp un gd cn cs a₀ ccd cl outer A₀ base h₀ L m s Q E B F X N T hk hroom hun hret
  cases hR
  rename_i hm
  w_strict (
    refine wpAny_call ?_
    k_dflt ktr_enter
    repeat' (first
      | ((with_reducible show wpAny _ _ (call (Value.ref _) _) _ _ _); first
        | (k_dflt (refine' use_behY ?kA ?k1 ?k2 ?k3 ?k4 ?k5 ?kK ?hR ?hs ?kd ?ku ?_; (case k1 => k_asm); (case k2 => k_asm); (case k3 => k_asm); (case k4 => k_asm); (case k5 => k_asm); (case kK => first | exact rfl | assumption); (case hR => with_reducible assumption); (case kA => with_reducible assumption); (case hs => intro p hp; k_mem); (case kd => ktr_room); (case ku => ktr_units)); intro l9 u9 n9 R9 h9 tk9 r9 m9 sub9 lt9 F9 N9; (try dsimp only); (try k_fold))
        | (k_dflt (refine' use_behN ?kA ?k1 ?k2 ?k3 ?k4 ?k5 ?kK ?hR ?hs ?kd ?ku ?_; (case k1 => k_asm); (case k2 => k_asm); (case k3 => k_asm); (case k4 => k_asm); (case k5 => k_asm); (case kK => first | exact rfl | assumption); (case hR => with_reducible assumption); (case kA => with_reducible assumption); (case hs => intro p hp; k_mem); (case kd => ktr_room); (case ku => ktr_units)); intro l9 n9 R9 h9 tk9 m9 sub9 lt9 F9 N9; (try dsimp only); (try k_fold))
        | (k_dflt (refine' use_ask3 ?kA ?k1 ?k2 ?k3 ?k4 ?k5 ?kK ?hR ?hs ?f0 ?f1 ?f2 ?kd ?ku ?_; (case k1 => k_asm); (case k2 => k_asm); (case k3 => k_asm); (case k4 => k_asm); (case k5 => k_asm); (case kK => first | exact rfl | assumption); (case hR => with_reducible assumption); (case kA => with_reducible assumption); (case hs => intro p hp; k_mem); (case f0 => k_all); (case f1 => k_all); (case f2 => k_all); (case kd => ktr_room); (case ku => ktr_units)); intro l9 vs9 n9 R9 h9 tk9 S9 e9 m9 sub9 lt9 g0 g1 g2 F9 N9; (try dsimp only); (try k_fold))
        | (k_dflt (refine' use_ask2 ?kA ?k1 ?k2 ?k3 ?k4 ?k5 ?kK ?hR ?hs ?f0 ?f1 ?kd ?ku ?_; (case k1 => k_asm); (case k2 => k_asm); (case k3 => k_asm); (case k4 => k_asm); (case k5 => k_asm); (case kK => first | exact rfl | assumption); (case hR => with_reducible assumption); (case kA => with_reducible assumption); (case hs => intro p hp; k_mem); (case f0 => k_all); (case f1 => k_all); (case kd => ktr_room); (case ku => ktr_units)); intro l9 vs9 n9 R9 h9 tk9 S9 e9 m9 sub9 lt9 g0 g1 F9 N9; (try dsimp only); (try k_fold))
        | (k_dflt (refine' use_ask0 ?kA ?k1 ?k2 ?k3 ?k4 ?k5 ?kK ?hR ?hs  ?kd ?ku ?_; (case k1 => k_asm); (case k2 => k_asm); (case k3 => k_asm); (case k4 => k_asm); (case k5 => k_asm); (case kK => first | exact rfl | assumption); (case hR => with_reducible assumption); (case kA => with_reducible assumption); (case hs => intro p hp; k_mem); (case kd => ktr_room); (case ku => ktr_units)); intro l9 vs9 n9 R9 h9 tk9 S9 e9 m9 sub9 lt9  F9 N9; (try dsimp only); (try k_fold)))
      | (k_unfold; (try dsimp only))
      | (k_end; wrow_close)
      | walk1
      | (dsimp only; walk1)
      | (leave1; walk_say "STEP leave1"; try dsimp only))
    all_goals (first
      | (refine' ask_end hret ?kF ?kN ?hl ?hv ?al ?sl ?hs; (case kF => k_asm); (case kN => k_asm); (case hl => k_mem); (case hv => ((try simp only [List.nil_append]); first | with_reducible assumption | exact StrsAre.nil | exact StrsAre.cons _ _ StrsAre.nil | exact StrsAre_app (by with_reducible assumption) (by with_reducible assumption) | exact StrsAre_app (StrsAre_app (by with_reducible assumption) (by with_reducible assumption)) (by with_reducible assumption))); (case al => first | tbn_find | exact allLt_of (by with_reducible assumption)); (case sl => intro p hp; k_mem); (case hs => intro p hp; k_mem))
      | skip)
    all_goals w_report)
set_option maxHeartbeats 8000000 in
theorem l_item  : Asks 61 .item 3 [] := by
  intro w mean mg mb q news hR
  unfold Does
  w_top off
  k_fill
  intro dp un gd cn cs a₀ ccd cl outer A₀ base h₀ L m s Q E B F X N T hk hroom hun hret
  cases hR
  rename_i hm
  w_strict (
    refine wpAny_call ?_
    k_dflt ktr_enter
    repeat' (first
      | ((with_reducible show wpAny _ _ (call (Value.ref _) _) _ _ _); first
        | (k_dflt (refine' use_behY ?kA ?k1 ?k2 ?k3 ?k4 ?k5 ?kK ?hR ?hs ?kd ?ku ?_; (case k1 => k_asm); (case k2 => k_asm); (case k3 => k_asm); (case k4 => k_asm); (case k5 => k_asm); (case kK => first | exact rfl | assumption); (case hR => with_reducible assumption); (case kA => with_reducible assumption); (case hs => intro p hp; k_mem); (case kd => ktr_room); (case ku => ktr_units)); intro l9 u9 n9 R9 h9 tk9 r9 m9 sub9 lt9 F9 N9; (try dsimp only); (try k_fold))
        | (k_dflt (refine' use_behN ?kA ?k1 ?k2 ?k3 ?k4 ?k5 ?kK ?hR ?hs ?kd ?ku ?_; (case k1 => k_asm); (case k2 => k_asm); (case k3 => k_asm); (case k4 => k_asm); (case k5 => k_asm); (case kK => first | exact rfl | assumption); (case hR => with_reducible assumption); (case kA => with_reducible assumption); (case hs => intro p hp; k_mem); (case kd => ktr_room); (case ku => ktr_units)); intro l9 n9 R9 h9 tk9 m9 sub9 lt9 F9 N9; (try dsimp only); (try k_fold))
        | (k_dflt (refine' use_ask3 ?kA ?k1 ?k2 ?k3 ?k4 ?k5 ?kK ?hR ?hs ?f0 ?f1 ?f2 ?kd ?ku ?_; (case k1 => k_asm); (case k2 => k_asm); (case k3 => k_asm); (case k4 => k_asm); (case k5 => k_asm); (case kK => first | exact rfl | assumption); (case hR => with_reducible assumption); (case kA => with_reducible assumption); (case hs => intro p hp; k_mem); (case f0 => k_all); (case f1 => k_all); (case f2 => k_all); (case kd => ktr_room); (case ku => ktr_units)); intro l9 vs9 n9 R9 h9 tk9 S9 e9 m9 sub9 lt9 g0 g1 g2 F9 N9; (try dsimp only); (try k_fold))
        | (k_dflt (refine' use_ask2 ?kA ?k1 ?k2 ?k3 ?k4 ?k5 ?kK ?hR ?hs ?f0 ?f1 ?kd ?ku ?_; (case k1 => k_asm); (case k2 => k_asm); (case k3 => k_asm); (case k4 => k_asm); (case k5 => k_asm); (case kK => first | exact rfl | assumption); (case hR => with_reducible assumption); (case kA => with_reducible assumption); (case hs => intro p hp; k_mem); (case f0 => k_all); (case f1 => k_all); (case kd => ktr_room); (case ku => ktr_units)); intro l9 vs9 n9 R9 h9 tk9 S9 e9 m9 sub9 lt9 g0 g1 F9 N9; (try dsimp only); (try k_fold))
        | (k_dflt (refine' use_ask0 ?kA ?k1 ?k2 ?k3 ?k4 ?k5 ?kK ?hR ?hs  ?kd ?ku ?_; (case k1 => k_asm); (case k2 => k_asm); (case k3 => k_asm); (case k4 => k_asm); (case k5 => k_asm); (case kK => first | exact rfl | assumption); (case hR => with_reducible assumption); (case kA => with_reducible assumption); (case hs => intro p hp; k_mem); (case kd => ktr_room); (case ku => ktr_units)); intro l9 vs9 n9 R9 h9 tk9 S9 e9 m9 sub9 lt9  F9 N9; (try dsimp only); (try k_fold)))
      | (k_unfold; (try dsimp only))
      | (k_end; wrow_close)
      | walk1
      | (dsimp only; walk1)
      | (leave1; walk_say "STEP leave1"; try dsimp only))
    all_goals (first
      | (refine' ask_end hret ?kF ?kN ?hl ?hv ?al ?sl ?hs; (case kF => k_asm); (case kN => k_asm); (case hl => k_mem); (case hv => ((try simp only [List.nil_append]); first | with_reducible assumption | exact StrsAre.nil | exact StrsAre.cons _ _ StrsAre.nil | exact StrsAre_app (by with_reducible assumption) (by with_reducible assumption) | exact StrsAre_app (StrsAre_app (by with_reducible assumption) (by with_reducible assumption)) (by with_reducible assumption))); (case al => first | tbn_find | exact allLt_of (by with_reducible assumption)); (case sl => intro p hp; k_mem); (case hs => intro p hp; k_mem))
      | skip)
    all_goals w_report)
set_option maxHeartbeats 8000000 in
theorem l_join {a b : Tr} {n : Nat} {xs ys : List Str} (HA : Asks 61 a n xs) (HB : Asks 61 b n ys) (hn : n < 100) (hx : xs.length ≤ 256) (hy : ys.length ≤ 256) : Asks 61 (.join a b) (n + 3) (xs ++ ys) := by
  intro w mean mg mb q news hR
  unfold Does
  w_top off
  k_fill
  intro dp un gd cn cs a₀ ccd cl outer A₀ base h₀ L m s Q E B F X N T hk hroom hun hret
  cases hR
  rename_i hm hu hv
  w_strict (
    refine wpAny_call ?_
    k_dflt ktr_enter
    repeat' (first
      | ((with_reducible show wpAny _ _ (call (Value.ref _) _) _ _ _); first
        | (k_dflt (refine' use_behY ?kA ?k1 ?k2 ?k3 ?k4 ?k5 ?kK ?hR ?hs ?kd ?ku ?_; (case k1 => k_asm); (case k2 => k_asm); (case k3 => k_asm); (case k4 => k_asm); (case k5 => k_asm); (case kK => first | exact rfl | assumption); (case hR => with_reducible assumption); (case kA => with_reducible assumption); (case hs => intro p hp; k_mem); (case kd => ktr_room); (case ku => ktr_units)); intro l9 u9 n9 R9 h9 tk9 r9 m9 sub9 lt9 F9 N9; (try dsimp only); (try k_fold))
        | (k_dflt (refine' use_behN ?kA ?k1 ?k2 ?k3 ?k4 ?k5 ?kK ?hR ?hs ?kd ?ku ?_; (case k1 => k_asm); (case k2 => k_asm); (case k3 => k_asm); (case k4 => k_asm); (case k5 => k_asm); (case kK => first | exact rfl | assumption); (case hR => with_reducible assumption); (case kA => with_reducible assumption); (case hs => intro p hp; k_mem); (case kd => ktr_room); (case ku => ktr_units)); intro l9 n9 R9 h9 tk9 m9 sub9 lt9 F9 N9; (try dsimp only); (try k_fold))
        | (k_dflt (refine' use_ask3 ?kA ?k1 ?k2 ?k3 ?k4 ?k5 ?kK ?hR ?hs ?f0 ?f1 ?f2 ?kd ?ku ?_; (case k1 => k_asm); (case k2 => k_asm); (case k3 => k_asm); (case k4 => k_asm); (case k5 => k_asm); (case kK => first | exact rfl | assumption); (case hR => with_reducible assumption); (case kA => with_reducible assumption); (case hs => intro p hp; k_mem); (case f0 => k_all); (case f1 => k_all); (case f2 => k_all); (case kd => ktr_room); (case ku => ktr_units)); intro l9 vs9 n9 R9 h9 tk9 S9 e9 m9 sub9 lt9 g0 g1 g2 F9 N9; (try dsimp only); (try k_fold))
        | (k_dflt (refine' use_ask2 ?kA ?k1 ?k2 ?k3 ?k4 ?k5 ?kK ?hR ?hs ?f0 ?f1 ?kd ?ku ?_; (case k1 => k_asm); (case k2 => k_asm); (case k3 => k_asm); (case k4 => k_asm); (case k5 => k_asm); (case kK => first | exact rfl | assumption); (case hR => with_reducible assumption); (case kA => with_reducible assumption); (case hs => intro p hp; k_mem); (case f0 => k_all); (case f1 => k_all); (case kd => ktr_room); (case ku => ktr_units)); intro l9 vs9 n9 R9 h9 tk9 S9 e9 m9 sub9 lt9 g0 g1 F9 N9; (try dsimp only); (try k_fold))
        | (k_dflt (refine' use_ask0 ?kA ?k1 ?k2 ?k3 ?k4 ?k5 ?kK ?hR ?hs  ?kd ?ku ?_; (case k1 => k_asm); (case k2 => k_asm); (case k3 => k_asm); (case k4 => k_asm); (case k5 => k_asm); (case kK => first | exact rfl | assumption); (case hR => with_reducible assumption); (case kA => with_reducible assumption); (case hs => intro p hp; k_mem); (case kd => ktr_room); (case ku => ktr_units)); intro l9 vs9 n9 R9 h9 tk9 S9 e9 m9 sub9 lt9  F9 N9; (try dsimp only); (try k_fold)))
      | (k_unfold; (try dsimp only))
      | (k_end; wrow_close)
      | walk1
      | (dsimp only; walk1)
      | (leave1; walk_say "STEP leave1"; try dsimp only))
    all_goals (first
      | (refine' ask_end hret ?kF ?kN ?hl ?hv ?al ?sl ?hs; (case kF => k_asm); (case kN => k_asm); (case hl => k_mem); (case hv => ((try simp only [List.nil_append]); first | with_reducible assumption | exact StrsAre.nil | exact StrsAre.cons _ _ StrsAre.nil | exact StrsAre_app (by with_reducible assumption) (by with_reducible assumption) | exact StrsAre_app (StrsAre_app (by with_reducible assumption) (by with_reducible assumption)) (by with_reducible assumption))); (case al => first | tbn_find | exact allLt_of (by with_reducible assumption)); (case sl => intro p hp; k_mem); (case hs => intro p hp; k_mem))
      | skip)
    all_goals w_report)
set_option maxHeartbeats 8000000 in
theorem l_binP {a b : Tr} {n : Nat} {xs ys : List Str} (HA : Asks 61 a n xs) (HB : Asks 61 b n ys) (hn : n < 100) (hx : xs.length ≤ 256) (hy : ys.length ≤ 256) : Asks 61 (.bin .plain a b) (n + 3) (xs ++ ys) := by
  intro w mean mg mb q news hR
  unfold Does
  w_top off
  k_fill
  intro dp un gd cn cs a₀ ccd cl outer A₀ base h₀ L m s Q E B F X N T hk hroom hun hret
  cases hR
  rename_i hm ho hu hv
  simp only [BOp.Is] at ho
  w_strict (
    refine wpAny_call ?_
    k_dflt ktr_enter
    repeat' (first
      | ((with_reducible show wpAny _ _ (call (Value.ref _) _) _ _ _); first
        | (k_dflt (refine' use_behY ?kA ?k1 ?k2 ?k3 ?k4 ?k5 ?kK ?hR ?hs ?kd ?ku ?_; (case k1 => k_asm); (case k2 => k_asm); (case k3 => k_asm); (case k4 => k_asm); (case k5 => k_asm); (case kK => first | exact rfl | assumption); (case hR => with_reducible assumption); (case kA => with_reducible assumption); (case hs => intro p hp; k_mem); (case kd => ktr_room); (case ku => ktr_units)); intro l9 u9 n9 R9 h9 tk9 r9 m9 sub9 lt9 F9 N9; (try dsimp only); (try k_fold))
        | (k_dflt (refine' use_behN ?kA ?k1 ?k2 ?k3 ?k4 ?k5 ?kK ?hR ?hs ?kd ?ku ?_; (case k1 => k_asm); (case k2 => k_asm); (case k3 => k_asm); (case k4 => k_asm); (case k5 => k_asm); (case kK => first | exact rfl | assumption); (case hR => with_reducible assumption); (case kA => with_reducible assumption); (case hs => intro p hp; k_mem); (case kd => ktr_room); (case ku => ktr_units)); intro l9 n9 R9 h9 tk9 m9 sub9 lt9 F9 N9; (try dsimp only); (try k_fold))
        | (k_dflt (refine' use_ask3 ?kA ?k1 ?k2 ?k3 ?k4 ?k5 ?kK ?hR ?hs ?f0 ?f1 ?f2 ?kd ?ku ?_; (case k1 => k_asm); (case k2 => k_asm); (case k3 => k_asm); (case k4 => k_asm); (case k5 => k_asm); (case kK => first | exact rfl | assumption); (case hR => with_reducible assumption); (case kA => with_reducible assumption); (case hs => intro p hp; k_mem); (case f0 => k_all); (case f1 => k_all); (case f2 => k_all); (case kd => ktr_room); (case ku => ktr_units)); intro l9 vs9 n9 R9 h9 tk9 S9 e9 m9 sub9 lt9 g0 g1 g2 F9 N9; (try dsimp only); (try k_fold))
        | (k_dflt (refine' use_ask2 ?kA ?k1 ?k2 ?k3 ?k4 ?k5 ?kK ?hR ?hs ?f0 ?f1 ?kd ?ku ?_; (case k1 => k_asm); (case k2 => k_asm); (case k3 => k_asm); (case k4 => k_asm); (case k5 => k_asm); (case kK => first | exact rfl | assumption); (case hR => with_reducible assumption); (case kA => with_reducible assumption); (case hs => intro p hp; k_mem); (case f0 => k_all); (case f1 => k_all); (case kd => ktr_room); (case ku => ktr_units)); intro l9 vs9 n9 R9 h9 tk9 S9 e9 m9 sub9 lt9 g0 g1 F9 N9; (try dsimp only); (try k_fold))
        | (k_dflt (refine' use_ask0 ?kA ?k1 ?k2 ?k3 ?k4 ?k5 ?kK ?hR ?hs  ?kd ?ku ?_; (case k1 => k_asm); (case k2 => k_asm); (case k3 => k_asm); (case k4 => k_asm); (case k5 => k_asm); (case kK => first | exact rfl | assumption); (case hR => with_reducible assumption); (case kA => with_reducible assumption); (case hs => intro p hp; k_mem); (case kd => ktr_room); (case ku => ktr_units)); intro l9 vs9 n9 R9 h9 tk9 S9 e9 m9 sub9 lt9  F9 N9; (try dsimp only); (try k_fold)))
      | (k_unfold; (try dsimp only))
      | (k_end; wrow_close)
      | walk1
      | (dsimp only; walk1)
      | (leave1; walk_say "STEP leave1"; try dsimp only))
    all_goals (first
      | (refine' ask_end hret ?kF ?kN ?hl ?hv ?al ?sl ?hs; (case kF => k_asm); (case kN => k_asm); (case hl => k_mem); (case hv => ((try simp only [List.nil_append]); first | with_reducible assumption | exact StrsAre.nil | exact StrsAre.cons _ _ StrsAre.nil | exact StrsAre_app (by with_reducible assumption) (by with_reducible assumption) | exact StrsAre_app (StrsAre_app (by with_reducible assumption) (by with_reducible assumption)) (by with_reducible assumption))); (case al => first | tbn_find | exact allLt_of (by with_reducible assumption)); (case sl => intro p hp; k_mem); (case hs => intro p hp; k_mem))
      | skip)
    all_goals w_report)
set_option maxHeartbeats 8000000 in
theorem l_binDN {a b : Tr} {n : Nat} {xs : List Str} (HA : Asks 61 a n xs) (HN : BehN b) (hn : n < 100) (hx : xs.length ≤ 256) : Asks 61 (.bin .told a b) (n + 15) xs := by
  intro w mean mg mb q news hR
  unfold Does
  w_top off
  k_fill
  intro dp un gd cn cs a₀ ccd cl outer A₀ base h₀ L m s Q E B F X N T hk hroom hun hret
  cases hR
  rename_i hm ho hu hv
  simp only [BOp.Is] at ho
  w_strict (
    refine wpAny_call ?_
    k_dflt ktr_enter
    repeat' (first
      | ((with_reducible show wpAny _ _ (call (Value.ref _) _) _ _ _); first
        | (k_dflt (refine' use_behY ?kA ?k1 ?k2 ?k3 ?k4 ?k5 ?kK ?hR ?hs ?kd ?ku ?_; (case k1 => k_asm); (case k2 => k_asm); (case k3 => k_asm); (case k4 => k_asm); (case k5 => k_asm); (case kK => first | exact rfl | assumption); (case hR => with_reducible assumption); (case kA => with_reducible assumption); (case hs => intro p hp; k_mem); (case kd => ktr_room); (case ku => ktr_units)); intro l9 u9 n9 R9 h9 tk9 r9 m9 sub9 lt9 F9 N9; (try dsimp only); (try k_fold))
        | (k_dflt (refine' use_behN ?kA ?k1 ?k2 ?k3 ?k4 ?k5 ?kK ?hR ?hs ?kd ?ku ?_; (case k1 => k_asm); (case k2 => k_asm); (case k3 => k_asm); (case k4 => k_asm); (case k5 => k_asm); (case kK => first | exact rfl | assumption); (case hR => with_reducible assumption); (case kA => with_reducible assumption); (case hs => intro p hp; k_mem); (case kd => ktr_room); (case ku => ktr_units)); intro l9 n9 R9 h9 tk9 m9 sub9 lt9 F9 N9; (try dsimp only); (try k_fold))
        | (k_dflt (refine' use_ask3 ?kA ?k1 ?k2 ?k3 ?k4 ?k5 ?kK ?hR ?hs ?f0 ?f1 ?f2 ?kd ?ku ?_; (case k1 => k_asm); (case k2 => k_asm); (case k3 => k_asm); (case k4 => k_asm); (case k5 => k_asm); (case kK => first | exact rfl | assumption); (case hR => with_reducible assumption); (case kA => with_reducible assumption); (case hs => intro p hp; k_mem); (case f0 => k_all); (case f1 => k_all); (case f2 => k_all); (case kd => ktr_room); (case ku => ktr_units)); intro l9 vs9 n9 R9 h9 tk9 S9 e9 m9 sub9 lt9 g0 g1 g2 F9 N9; (try dsimp only); (try k_fold))
        | (k_dflt (refine' use_ask2 ?kA ?k1 ?k2 ?k3 ?k4 ?k5 ?kK ?hR ?hs ?f0 ?f1 ?kd ?ku ?_; (case k1 => k_asm); (case k2 => k_asm); (case k3 => k_asm); (case k4 => k_asm); (case k5 => k_asm); (case kK => first | exact rfl | assumption); (case hR => with_reducible assumption); (case kA => with_reducible assumption); (case hs => intro p hp; k_mem); (case f0 => k_all); (case f1 => k_all); (case kd => ktr_room); (case ku => ktr_units)); intro l9 vs9 n9 R9 h9 tk9 S9 e9 m9 sub9 lt9 g0 g1 F9 N9; (try dsimp only); (try k_fold))
        | (k_dflt (refine' use_ask0 ?kA ?k1 ?k2 ?k3 ?k4 ?k5 ?kK ?hR ?hs  ?kd ?ku ?_; (case k1 => k_asm); (case k2 => k_asm); (case k3 => k_asm); (case k4 => k_asm); (case k5 => k_asm); (case kK => first | exact rfl | assumption); (case hR => with_reducible assumption); (case kA => with_reducible assumption); (case hs => intro p hp; k_mem); (case kd => ktr_room); (case ku => ktr_units)); intro l9 vs9 n9 R9 h9 tk9 S9 e9 m9 sub9 lt9  F9 N9; (try dsimp only); (try k_fold)))
      | (k_unfold; (try dsimp only))
      | (k_end; wrow_close)
      | walk1
      | (dsimp only; walk1)
      | (leave1; walk_say "STEP leave1"; try dsimp only))
    all_goals (first
      | (refine' ask_end hret ?kF ?kN ?hl ?hv ?al ?sl ?hs; (case kF => k_asm); (case kN => k_asm); (case hl => k_mem); (case hv => ((try simp only [List.nil_append]); first | with_reducible assumption | exact StrsAre.nil | exact StrsAre.cons _ _ StrsAre.nil | exact StrsAre_app (by with_reducible assumption) (by with_reducible assumption) | exact StrsAre_app (StrsAre_app (by with_reducible assumption) (by with_reducible assumption)) (by with_reducible assumption))); (case al => first | tbn_find | exact allLt_of (by with_reducible assumption)); (case sl => intro p hp; k_mem); (case hs => intro p hp; k_mem))
      | skip)
    all_goals w_report)
set_option maxHeartbeats 8000000 in
theorem l_binDY {a b : Tr} {n : Nat} {xs ys : List Str} (HA : Asks 61 a n xs) (HB : Asks 61 b n ys) (hn : n < 100) (hx : xs.length ≤ 256) (hy : ys.length ≤ 256) (HY : BehY b) : Asks 61 (.bin .told a (.una .dol b)) (n + 15) (xs ++ ys) := by
  intro w mean mg mb q news hR
  unfold Does
  w_top off
  k_fill
  intro dp un gd cn cs a₀ ccd cl outer A₀ base h₀ L m s Q E B F X N T hk hroom hun hret
  cases hR
  rename_i hm ho hu hv
  simp only [BOp.Is] at ho
  w_strict (
    refine wpAny_call ?_
    k_dflt ktr_enter
    repeat' (first
      | ((with_reducible show wpAny _ _ (call (Value.ref _) _) _ _ _); first
        | (k_dflt (refine' use_behY ?kA ?k1 ?k2 ?k3 ?k4 ?k5 ?kK ?hR ?hs ?kd ?ku ?_; (case k1 => k_asm); (case k2 => k_asm); (case k3 => k_asm); (case k4 => k_asm); (case k5 => k_asm); (case kK => first | exact rfl | assumption); (case hR => with_reducible assumption); (case kA => with_reducible assumption); (case hs => intro p hp; k_mem); (case kd => ktr_room); (case ku => ktr_units)); intro l9 u9 n9 R9 h9 tk9 r9 m9 sub9 lt9 F9 N9; (try dsimp only); (try k_fold))
        | (k_dflt (refine' use_behN ?kA ?k1 ?k2 ?k3 ?k4 ?k5 ?kK ?hR ?hs ?kd ?ku ?_; (case k1 => k_asm); (case k2 => k_asm); (case k3 => k_asm); (case k4 => k_asm); (case k5 => k_asm); (case kK => first | exact rfl | assumption); (case hR => with_reducible assumption); (case kA => with_reducible assumption); (case hs => intro p hp; k_mem); (case kd => ktr_room); (case ku => ktr_units)); intro l9 n9 R9 h9 tk9 m9 sub9 lt9 F9 N9; (try dsimp only); (try k_fold))
        | (k_dflt (refine' use_ask3 ?kA ?k1 ?k2 ?k3 ?k4 ?k5 ?kK ?hR ?hs ?f0 ?f1 ?f2 ?kd ?ku ?_; (case k1 => k_asm); (case k2 => k_asm); (case k3 => k_asm); (case k4 => k_asm); (case k5 => k_asm); (case kK => first | exact rfl | assumption); (case hR => with_reducible assumption); (case kA => with_reducible assumption); (case hs => intro p hp; k_mem); (case f0 => k_all); (case f1 => k_all); (case f2 => k_all); (case kd => ktr_room); (case ku => ktr_units)); intro l9 vs9 n9 R9 h9 tk9 S9 e9 m9 sub9 lt9 g0 g1 g2 F9 N9; (try dsimp only); (try k_fold))
        | (k_dflt (refine' use_ask2 ?kA ?k1 ?k2 ?k3 ?k4 ?k5 ?kK ?hR ?hs ?f0 ?f1 ?kd ?ku ?_; (case k1 => k_asm); (case k2 => k_asm); (case k3 => k_asm); (case k4 => k_asm); (case k5 => k_asm); (case kK => first | exact rfl | assumption); (case hR => with_reducible assumption); (case kA => with_reducible assumption); (case hs => intro p hp; k_mem); (case f0 => k_all); (case f1 => k_all); (case kd => ktr_room); (case ku => ktr_units)); intro l9 vs9 n9 R9 h9 tk9 S9 e9 m9 sub9 lt9 g0 g1 F9 N9; (try dsimp only); (try k_fold))
        | (k_dflt (refine' use_ask0 ?kA ?k1 ?k2 ?k3 ?k4 ?k5 ?kK ?hR ?hs  ?kd ?ku ?_; (case k1 => k_asm); (case k2 => k_asm); (case k3 => k_asm); (case k4 => k_asm); (case k5 => k_asm); (case kK => first | exact rfl | assumption); (case hR => with_reducible assumption); (case kA => with_reducible assumption); (case hs => intro p hp; k_mem); (case kd => ktr_room); (case ku => ktr_units)); intro l9 vs9 n9 R9 h9 tk9 S9 e9 m9 sub9 lt9  F9 N9; (try dsimp only); (try k_fold)))
      | (k_unfold; (try dsimp only))
      | (k_end; wrow_close)
      | walk1
      | (dsimp only; walk1)
      | (leave1; walk_say "STEP leave1"; try dsimp only))
    all_goals (first
      | (refine' ask_end hret ?kF ?kN ?hl ?hv ?al ?sl ?hs; (case kF => k_asm); (case kN => k_asm); (case hl => k_mem); (case hv => ((try simp only [List.nil_append]); first | with_reducible assumption | exact StrsAre.nil | exact StrsAre.cons _ _ StrsAre.nil | exact StrsAre_app (by with_reducible assumption) (by with_reducible assumption) | exact StrsAre_app (StrsAre_app (by with_reducible assumption) (by with_reducible assumption)) (by with_reducible assumption))); (case al => first | tbn_find | exact allLt_of (by with_reducible assumption)); (case sl => intro p hp; k_mem); (case hs => intro p hp; k_mem))
      | skip)
    all_goals w_report)
set_option maxHeartbeats 8000000 in
theorem l_unaP {a : Tr} {n : Nat} {xs : List Str} (HA : Asks 61 a n xs) (hn : n < 100) (hx : xs.length ≤ 256) : Asks 61 (.una .plain a) (n + 3) xs := by
  intro w mean mg mb q news hR
  unfold Does
  w_top off
  k_fill
  intro dp un gd cn cs a₀ ccd cl outer A₀ base h₀ L m s Q E B F X N T hk hroom hun hret
  cases hR
  rename_i hm ho hu
  obtain ⟨o1, o2, o3⟩ := ho
  w_strict (
    refine wpAny_call ?_
    k_dflt ktr_enter
    repeat' (first
      | ((with_reducible show wpAny _ _ (call (Value.ref _) _) _ _ _); first
        | (k_dflt (refine' use_behY ?kA ?k1 ?k2 ?k3 ?k4 ?k5 ?kK ?hR ?hs ?kd ?ku ?_; (case k1 => k_asm); (case k2 => k_asm); (case k3 => k_asm); (case k4 => k_asm); (case k5 => k_asm); (case kK => first | exact rfl | assumption); (case hR => with_reducible assumption); (case kA => with_reducible assumption); (case hs => intro p hp; k_mem); (case kd => ktr_room); (case ku => ktr_units)); intro l9 u9 n9 R9 h9 tk9 r9 m9 sub9 lt9 F9 N9; (try dsimp only); (try k_fold))
        | (k_dflt (refine' use_behN ?kA ?k1 ?k2 ?k3 ?k4 ?k5 ?kK ?hR ?hs ?kd ?ku ?_; (case k1 => k_asm); (case k2 => k_asm); (case k3 => k_asm); (case k4 => k_asm); (case k5 => k_asm); (case kK => first | exact rfl | assumption); (case hR => with_reducible assumption); (case kA => with_reducible assumption); (case hs => intro p hp; k_mem); (case kd => ktr_room); (case ku => ktr_units)); intro l9 n9 R9 h9 tk9 m9 sub9 lt9 F9 N9; (try dsimp only); (try k_fold))
        | (k_dflt (refine' use_ask3 ?kA ?k1 ?k2 ?k3 ?k4 ?k5 ?kK ?hR ?hs ?f0 ?f1 ?f2 ?kd ?ku ?_; (case k1 => k_asm); (case k2 => k_asm); (case k3 => k_asm); (case k4 => k_asm); (case k5 => k_asm); (case kK => first | exact rfl | assumption); (case hR => with_reducible assumption); (case kA => with_reducible assumption); (case hs => intro p hp; k_mem); (case f0 => k_all); (case f1 => k_all); (case f2 => k_all); (case kd => ktr_room); (case ku => ktr_units)); intro l9 vs9 n9 R9 h9 tk9 S9 e9 m9 sub9 lt9 g0 g1 g2 F9 N9; (try dsimp only); (try k_fold))
        | (k_dflt (refine' use_ask2 ?kA ?k1 ?k2 ?k3 ?k4 ?k5 ?kK ?hR ?hs ?f0 ?f1 ?kd ?ku ?_; (case k1 => k_asm); (case k2 => k_asm); (case k3 => k_asm); (case k4 => k_asm); (case k5 => k_asm); (case kK => first | exact rfl | assumption); (case hR => with_reducible assumption); (case kA => with_reducible assumption); (case hs => intro p hp; k_mem); (case f0 => k_all); (case f1 => k_all); (case kd => ktr_room); (case ku => ktr_units)); intro l9 vs9 n9 R9 h9 tk9 S9 e9 m9 sub9 lt9 g0 g1 F9 N9; (try dsimp only); (try k_fold))
        | (k_dflt (refine' use_ask0 ?kA ?k1 ?k2 ?k3 ?k4 ?k5 ?kK ?hR ?hs  ?kd ?ku ?_; (case k1 => k_asm); (case k2 => k_asm); (case k3 => k_asm); (case k4 => k_asm); (case k5 => k_asm); (case kK => first | exact rfl | assumption); (case hR => with_reducible assumption); (case kA => with_reducible assumption); (case hs => intro p hp; k_mem); (case kd => ktr_room); (case ku => ktr_units)); intro l9 vs9 n9 R9 h9 tk9 S9 e9 m9 sub9 lt9  F9 N9; (try dsimp only); (try k_fold)))
      | (k_unfold; (try dsimp only))
      | (k_end; wrow_close)
      | walk1
      | (dsimp only; walk1)
      | (leave1; walk_say "STEP leave1"; try dsimp only))
    all_goals (first
      | (refine' ask_end hret ?kF ?kN ?hl ?hv ?al ?sl ?hs; (case kF => k_asm); (case kN => k_asm); (case hl => k_mem); (case hv => ((try simp only [List.nil_append]); first | with_reducible assumption | exact StrsAre.nil | exact StrsAre.cons _ _ StrsAre.nil | exact StrsAre_app (by with_reducible assumption) (by with_reducible assumption) | exact StrsAre_app (StrsAre_app (by with_reducible assumption) (by with_reducible assumption)) (by with_reducible assumption))); (case al => first | tbn_find | exact allLt_of (by with_reducible assumption)); (case sl => intro p hp; k_mem); (case hs => intro p hp; k_mem))
      | skip)
    all_goals w_report)
set_option maxHeartbeats 8000000 in
theorem l_unaL {a : Tr} {n : Nat} {xs : List Str} (HA : Asks 61 a n xs) (hn : n < 100) (hx : xs.length ≤ 256) : Asks 61 (.una .dol a) (n + 3) xs := by
  intro w mean mg mb q news hR
  unfold Does
  w_top off
  k_fill
  intro dp un gd cn cs a₀ ccd cl outer A₀ base h₀ L m s Q E B F X N T hk hroom hun hret
  cases hR
  rename_i hm ho hu
  cases ho
  w_strict (
    refine wpAny_call ?_
    k_dflt ktr_enter
    repeat' (first
      | ((with_reducible show wpAny _ _ (call (Value.ref _) _) _ _ _); first
        | (k_dflt (refine' use_behY ?kA ?k1 ?k2 ?k3 ?k4 ?k5 ?kK ?hR ?hs ?kd ?ku ?_; (case k1 => k_asm); (case k2 => k_asm); (case k3 => k_asm); (case k4 => k_asm); (case k5 => k_asm); (case kK => first | exact rfl | assumption); (case hR => with_reducible assumption); (case kA => with_reducible assumption); (case hs => intro p hp; k_mem); (case kd => ktr_room); (case ku => ktr_units)); intro l9 u9 n9 R9 h9 tk9 r9 m9 sub9 lt9 F9 N9; (try dsimp only); (try k_fold))
        | (k_dflt (refine' use_behN ?kA ?k1 ?k2 ?k3 ?k4 ?k5 ?kK ?hR ?hs ?kd ?ku ?_; (case k1 => k_asm); (case k2 => k_asm); (case k3 => k_asm); (case k4 => k_asm); (case k5 => k_asm); (case kK => first | exact rfl | assumption); (case hR => with_reducible assumption); (case kA => with_reducible assumption); (case hs => intro p hp; k_mem); (case kd => ktr_room); (case ku => ktr_units)); intro l9 n9 R9 h9 tk9 m9 sub9 lt9 F9 N9; (try dsimp only); (try k_fold))
        | (k_dflt (refine' use_ask3 ?kA ?k1 ?k2 ?k3 ?k4 ?k5 ?kK ?hR ?hs ?f0 ?f1 ?f2 ?kd ?ku ?_; (case k1 => k_asm); (case k2 => k_asm); (case k3 => k_asm); (case k4 => k_asm); (case k5 => k_asm); (case kK => first | exact rfl | assumption); (case hR => with_reducible assumption); (case kA => with_reducible assumption); (case hs => intro p hp; k_mem); (case f0 => k_all); (case f1 => k_all); (case f2 => k_all); (case kd => ktr_room); (case ku => ktr_units)); intro l9 vs9 n9 R9 h9 tk9 S9 e9 m9 sub9 lt9 g0 g1 g2 F9 N9; (try dsimp only); (try k_fold))
        | (k_dflt (refine' use_ask2 ?kA ?k1 ?k2 ?k3 ?k4 ?k5 ?kK ?hR ?hs ?f0 ?f1 ?kd ?ku ?_; (case k1 => k_asm); (case k2 => k_asm); (case k3 => k_asm); (case k4 => k_asm); (case k5 => k_asm); (case kK => first | exact rfl | assumption); (case hR => with_reducible assumption); (case kA => with_reducible assumption); (case hs => intro p hp; k_mem); (case f0 => k_all); (case f1 => k_all); (case kd => ktr_room); (case ku => ktr_units)); intro l9 vs9 n9 R9 h9 tk9 S9 e9 m9 sub9 lt9 g0 g1 F9 N9; (try dsimp only); (try k_fold))
        | (k_dflt (refine' use_ask0 ?kA ?k1 ?k2 ?k3 ?k4 ?k5 ?kK ?hR ?hs  ?kd ?ku ?_; (case k1 => k_asm); (case k2 => k_asm); (case k3 => k_asm); (case k4 => k_asm); (case k5 => k_asm); (case kK => first | exact rfl | assumption); (case hR => with_reducible assumption); (case kA => with_reducible assumption); (case hs => intro p hp; k_mem); (case kd => ktr_room); (case ku => ktr_units)); intro l9 vs9 n9 R9 h9 tk9 S9 e9 m9 sub9 lt9  F9 N9; (try dsimp only); (try k_fold)))
      | (k_unfold; (try dsimp only))
      | (k_end; wrow_close)
      | walk1
      | (dsimp only; walk1)
      | (leave1; walk_say "STEP leave1"; try dsimp only))
    all_goals (first
      | (refine' ask_end hret ?kF ?kN ?hl ?hv ?al ?sl ?hs; (case kF => k_asm); (case kN => k_asm); (case hl => k_mem); (case hv => ((try simp only [List.nil_append]); first | with_reducible assumption | exact StrsAre.nil | exact StrsAre.cons _ _ StrsAre.nil | exact StrsAre_app (by with_reducible assumption) (by with_reducible assumption) | exact StrsAre_app (StrsAre_app (by with_reducible assumption) (by with_reducible assumption)) (by with_reducible assumption))); (case al => first | tbn_find | exact allLt_of (by with_reducible assumption)); (case sl => intro p hp; k_mem); (case hs => intro p hp; k_mem))
      | skip)
    all_goals w_report)
set_option maxHeartbeats 8000000 in
theorem l_unaDN {a : Tr} (HN : BehN a) : Asks 61 (.una .told a) 15 [] := by
  intro w mean mg mb q news hR
  unfold Does
  w_top off
  k_fill
  intro dp un gd cn cs a₀ ccd cl outer A₀ base h₀ L m s Q E B F X N T hk hroom hun hret
  cases hR
  rename_i hm ho hu
  obtain ⟨o1, o2, o3⟩ := ho
  w_strict (
    refine wpAny_call ?_
    k_dflt ktr_enter
    repeat' (first
      | ((with_reducible show wpAny _ _ (call (Value.ref _) _) _ _ _); first
        | (k_dflt (refine' use_behY ?kA ?k1 ?k2 ?k3 ?k4 ?k5 ?kK ?hR ?hs ?kd ?ku ?_; (case k1 => k_asm); (case k2 => k_asm); (case k3 => k_asm); (case k4 => k_asm); (case k5 => k_asm); (case kK => first | exact rfl | assumption); (case hR => with_reducible assumption); (case kA => with_reducible assumption); (case hs => intro p hp; k_mem); (case kd => ktr_room); (case ku => ktr_units)); intro l9 u9 n9 R9 h9 tk9 r9 m9 sub9 lt9 F9 N9; (try dsimp only); (try k_fold))
        | (k_dflt (refine' use_behN ?kA ?k1 ?k2 ?k3 ?k4 ?k5 ?kK ?hR ?hs ?kd ?ku ?_; (case k1 => k_asm); (case k2 => k_asm); (case k3 => k_asm); (case k4 => k_asm); (case k5 => k_asm); (case kK => first | exact rfl | assumption); (case hR => with_reducible assumption); (case kA => with_reducible assumption); (case hs => intro p hp; k_mem); (case kd => ktr_room); (case ku => ktr_units)); intro l9 n9 R9 h9 tk9 m9 sub9 lt9 F9 N9; (try dsimp only); (try k_fold))
        | (k_dflt (refine' use_ask3 ?kA ?k1 ?k2 ?k3 ?k4 ?k5 ?kK ?hR ?hs ?f0 ?f1 ?f2 ?kd ?ku ?_; (case k1 => k_asm); (case k2 => k_asm); (case k3 => k_asm); (case k4 => k_asm); (case k5 => k_asm); (case kK => first | exact rfl | assumption); (case hR => with_reducible assumption); (case kA => with_reducible assumption); (case hs => intro p hp; k_mem); (case f0 => k_all); (case f1 => k_all); (case f2 => k_all); (case kd => ktr_room); (case ku => ktr_units)); intro l9 vs9 n9 R9 h9 tk9 S9 e9 m9 sub9 lt9 g0 g1 g2 F9 N9; (try dsimp only); (try k_fold))
        | (k_dflt (refine' use_ask2 ?kA ?k1 ?k2 ?k3 ?k4 ?k5 ?kK ?hR ?hs ?f0 ?f1 ?kd ?ku ?_; (case k1 => k_asm); (case k2 => k_asm); (case k3 => k_asm); (case k4 => k_asm); (case k5 => k_asm); (case kK => first | exact rfl | assumption); (case hR => with_reducible assumption); (case kA => with_reducible assumption); (case hs => intro p hp; k_mem); (case f0 => k_all); (case f1 => k_all); (case kd => ktr_room); (case ku => ktr_units)); intro l9 vs9 n9 R9 h9 tk9 S9 e9 m9 sub9 lt9 g0 g1 F9 N9; (try dsimp only); (try k_fold))
        | (k_dflt (refine' use_ask0 ?kA ?k1 ?k2 ?k3 ?k4 ?k5 ?kK ?hR ?hs  ?kd ?ku ?_; (case k1 => k_asm); (case k2 => k_asm); (case k3 => k_asm); (case k4 => k_asm); (case k5 => k_asm); (case kK => first | exact rfl | assumption); (case hR => with_reducible assumption); (case kA => with_reducible assumption); (case hs => intro p hp; k_mem); (case kd => ktr_room); (case ku => ktr_units)); intro l9 vs9 n9 R9 h9 tk9 S9 e9 m9 sub9 lt9  F9 N9; (try dsimp only); (try k_fold)))
      | (k_unfold; (try dsimp only))
      | (k_end; wrow_close)
      | walk1
      | (dsimp only; walk1)
      | (leave1; walk_say "STEP leave1"; try dsimp only))
    all_goals (first
      | (refine' ask_end hret ?kF ?kN ?hl ?hv ?al ?sl ?hs; (case kF => k_asm); (case kN => k_asm); (case hl => k_mem); (case hv => ((try simp only [List.nil_append]); first | with_reducible assumption | exact StrsAre.nil | exact StrsAre.cons _ _ StrsAre.nil | exact StrsAre_app (by with_reducible assumption) (by with_reducible assumption) | exact StrsAre_app (StrsAre_app (by with_reducible assumption) (by with_reducible assumption)) (by with_reducible assumption))); (case al => first | tbn_find | exact allLt_of (by with_reducible assumption)); (case sl => intro p hp; k_mem); (case hs => intro p hp; k_mem))
      | skip)
    all_goals w_report)
set_option maxHeartbeats 8000000 in
theorem l_unaDY {a : Tr} {n : Nat} {xs : List Str} (HA : Asks 61 a n xs) (hn : n < 100) (hx : xs.length ≤ 256) (HY : BehY a) : Asks 61 (.una .told (.una .dol a)) (n + 15) xs := by
  intro w mean mg mb q news hR
  unfold Does
  w_top off
  k_fill
  intro dp un gd cn cs a₀ ccd cl outer A₀ base h₀ L m s Q E B F X N T hk hroom hun hret
  cases hR
  rename_i hm ho hu
  obtain ⟨o1, o2, o3⟩ := ho
  w_strict (
    refine wpAny_call ?_
    k_dflt ktr_enter
    repeat' (first
      | ((with_reducible show wpAny _ _ (call (Value.ref _) _) _ _ _); first
        | (k_dflt (refine' use_behY ?kA ?k1 ?k2 ?k3 ?k4 ?k5 ?kK ?hR ?hs ?kd ?ku ?_; (case k1 => k_asm); (case k2 => k_asm); (case k3 => k_asm); (case k4 => k_asm); (case k5 => k_asm); (case kK => first | exact rfl | assumption); (case hR => with_reducible assumption); (case kA => with_reducible assumption); (case hs => intro p hp; k_mem); (case kd => ktr_room); (case ku => ktr_units)); intro l9 u9 n9 R9 h9 tk9 r9 m9 sub9 lt9 F9 N9; (try dsimp only); (try k_fold))
        | (k_dflt (refine' use_behN ?kA ?k1 ?k2 ?k3 ?k4 ?k5 ?kK ?hR ?hs ?kd ?ku ?_; (case k1 => k_asm); (case k2 => k_asm); (case k3 => k_asm); (case k4 => k_asm); (case k5 => k_asm); (case kK => first | exact rfl | assumption); (case hR => with_reducible assumption); (case kA => with_reducible assumption); (case hs => intro p hp; k_mem); (case kd => ktr_room); (case ku => ktr_units)); intro l9 n9 R9 h9 tk9 m9 sub9 lt9 F9 N9; (try dsimp only); (try k_fold))
        | (k_dflt (refine' use_ask3 ?kA ?k1 ?k2 ?k3 ?k4 ?k5 ?kK ?hR ?hs ?f0 ?f1 ?f2 ?kd ?ku ?_; (case k1 => k_asm); (case k2 => k_asm); (case k3 => k_asm); (case k4 => k_asm); (case k5 => k_asm); (case kK => first | exact rfl | assumption); (case hR => with_reducible assumption); (case kA => with_reducible assumption); (case hs => intro p hp; k_mem); (case f0 => k_all); (case f1 => k_all); (case f2 => k_all); (case kd => ktr_room); (case ku => ktr_units)); intro l9 vs9 n9 R9 h9 tk9 S9 e9 m9 sub9 lt9 g0 g1 g2 F9 N9; (try dsimp only); (try k_fold))
        | (k_dflt (refine' use_ask2 ?kA ?k1 ?k2 ?k3 ?k4 ?k5 ?kK ?hR ?hs ?f0 ?f1 ?kd ?ku ?_; (case k1 => k_asm); (case k2 => k_asm); (case k3 => k_asm); (case k4 => k_asm); (case k5 => k_asm); (case kK => first | exact rfl | assumption); (case hR => with_reducible assumption); (case kA => with_reducible assumption); (case hs => intro p hp; k_mem); (case f0 => k_all); (case f1 => k_all); (case kd => ktr_room); (case ku => ktr_units)); intro l9 vs9 n9 R9 h9 tk9 S9 e9 m9 sub9 lt9 g0 g1 F9 N9; (try dsimp only); (try k_fold))
        | (k_dflt (refine' use_ask0 ?kA ?k1 ?k2 ?k3 ?k4 ?k5 ?kK ?hR ?hs  ?kd ?ku ?_; (case k1 => k_asm); (case k2 => k_asm); (case k3 => k_asm); (case k4 => k_asm); (case k5 => k_asm); (case kK => first | exact rfl | assumption); (case hR => with_reducible assumption); (case kA => with_reducible assumption); (case hs => intro p hp; k_mem); (case kd => ktr_room); (case ku => ktr_units)); intro l9 vs9 n9 R9 h9 tk9 S9 e9 m9 sub9 lt9  F9 N9; (try dsimp only); (try k_fold)))
      | (k_unfold; (try dsimp only))
      | (k_end; wrow_close)
      | walk1
      | (dsimp only; walk1)
      | (leave1; walk_say "STEP leave1"; try dsimp only))
    all_goals (first
      | (refine' ask_end hret ?kF ?kN ?hl ?hv ?al ?sl ?hs; (case kF => k_asm); (case kN => k_asm); (case hl => k_mem); (case hv => ((try simp only [List.nil_append]); first | with_reducible assumption | exact StrsAre.nil | exact StrsAre.cons _ _ StrsAre.nil | exact StrsAre_app (by with_reducible assumption) (by with_reducible assumption) | exact StrsAre_app (StrsAre_app (by with_reducible assumption) (by with_reducible assumption)) (by with_reducible assumption))); (case al => first | tbn_find | exact allLt_of (by with_reducible assumption)); (case sl => intro p hp; k_mem); (case hs => intro p hp; k_mem))
      | skip)
    all_goals w_report)
set_option maxHeartbeats 8000000 in
theorem l_unaS {a : Tr} : Asks 61 (.una .star a) 3 [] := by
  intro w mean mg mb q news hR
  unfold Does
  w_top off
  k_fill
  intro dp un gd cn cs a₀ ccd cl outer A₀ base h₀ L m s Q E B F X N T hk hroom hun hret
  cases hR
  rename_i hm ho hu
  cases ho
  w_strict (
    refine wpAny_call ?_
    k_dflt ktr_enter
    repeat' (first
      | ((with_reducible show wpAny _ _ (call (Value.ref _) _) _ _ _); first
        | (k_dflt (refine' use_behY ?kA ?k1 ?k2 ?k3 ?k4 ?k5 ?kK ?hR ?hs ?kd ?ku ?_; (case k1 => k_asm); (case k2 => k_asm); (case k3 => k_asm); (case k4 => k_asm); (case k5 => k_asm); (case kK => first | exact rfl | assumption); (case hR => with_reducible assumption); (case kA => with_reducible assumption); (case hs => intro p hp; k_mem); (case kd => ktr_room); (case ku => ktr_units)); intro l9 u9 n9 R9 h9 tk9 r9 m9 sub9 lt9 F9 N9; (try dsimp only); (try k_fold))
        | (k_dflt (refine' use_behN ?kA ?k1 ?k2 ?k3 ?k4 ?k5 ?kK ?hR ?hs ?kd ?ku ?_; (case k1 => k_asm); (case k2 => k_asm); (case k3 => k_asm); (case k4 => k_asm); (case k5 => k_asm); (case kK => first | exact rfl | assumption); (case hR => with_reducible assumption); (case kA => with_reducible assumption); (case hs => intro p hp; k_mem); (case kd => ktr_room); (case ku => ktr_units)); intro l9 n9 R9 h9 tk9 m9 sub9 lt9 F9 N9; (try dsimp only); (try k_fold))
        | (k_dflt (refine' use_ask3 ?kA ?k1 ?k2 ?k3 ?k4 ?k5 ?kK ?hR ?hs ?f0 ?f1 ?f2 ?kd ?ku ?_; (case k1 => k_asm); (case k2 => k_asm); (case k3 => k_asm); (case k4 => k_asm); (case k5 => k_asm); (case kK => first | exact rfl | assumption); (case hR => with_reducible assumption); (case kA => with_reducible assumption); (case hs => intro p hp; k_mem); (case f0 => k_all); (case f1 => k_all); (case f2 => k_all); (case kd => ktr_room); (case ku => ktr_units)); intro l9 vs9 n9 R9 h9 tk9 S9 e9 m9 sub9 lt9 g0 g1 g2 F9 N9; (try dsimp only); (try k_fold))
        | (k_dflt (refine' use_ask2 ?kA ?k1 ?k2 ?k3 ?k4 ?k5 ?kK ?hR ?hs ?f0 ?f1 ?kd ?ku ?_; (case k1 => k_asm); (case k2 => k_asm); (case k3 => k_asm); (case k4 => k_asm); (case k5 => k_asm); (case kK => first | exact rfl | assumption); (case hR => with_reducible assumption); (case kA => with_reducible assumption); (case hs => intro p hp; k_mem); (case f0 => k_all); (case f1 => k_all); (case kd => ktr_room); (case ku => ktr_units)); intro l9 vs9 n9 R9 h9 tk9 S9 e9 m9 sub9 lt9 g0 g1 F9 N9; (try dsimp only); (try k_fold))
        | (k_dflt (refine' use_ask0 ?kA ?k1 ?k2 ?k3 ?k4 ?k5 ?kK ?hR ?hs  ?kd ?ku ?_; (case k1 => k_asm); (case k2 => k_asm); (case k3 => k_asm); (case k4 => k_asm); (case k5 => k_asm); (case kK => first | exact rfl | assumption); (case hR => with_reducible assumption); (case kA => with_reducible assumption); (case hs => intro p hp; k_mem); (case kd => ktr_room); (case ku => ktr_units)); intro l9 vs9 n9 R9 h9 tk9 S9 e9 m9 sub9 lt9  F9 N9; (try dsimp only); (try k_fold)))
      | (k_unfold; (try dsimp only))
      | (k_end; wrow_close)
      | walk1
      | (dsimp only; walk1)
      | (leave1; walk_say "STEP leave1"; try dsimp only))
    all_goals (first
      | (refine' ask_end hret ?kF ?kN ?hl ?hv ?al ?sl ?hs; (case kF => k_asm); (case kN => k_asm); (case hl => k_mem); (case hv => ((try simp only [List.nil_append]); first | with_reducible assumption | exact StrsAre.nil | exact StrsAre.cons _ _ StrsAre.nil | exact StrsAre_app (by with_reducible assumption) (by with_reducible assumption) | exact StrsAre_app (StrsAre_app (by with_reducible assumption) (by with_reducible assumption)) (by with_reducible assumption))); (case al => first | tbn_find | exact allLt_of (by with_reducible assumption)); (case sl => intro p hp; k_mem); (case hs => intro p hp; k_mem))
      | skip)
    all_goals w_report)
set_option maxHeartbeats 8000000 in
theorem l_call0  : Asks 61 .call0 3 [] := by
  intro w mean mg mb q news hR
  unfold Does
  w_top off
  k_fill
  intro dp un gd cn cs a₀ ccd cl outer A₀ base h₀ L m s Q E B F X N T hk hroom hun hret
  cases hR
  rename_i hm hp
  w_strict (
    refine wpAny_call ?_
    k_dflt ktr_enter
    repeat' (first
      | ((with_reducible show wpAny _ _ (call (Value.ref _) _) _ _ _); first
        | (k_dflt (refine' use_behY ?kA ?k1 ?k2 ?k3 ?k4 ?k5 ?kK ?hR ?hs ?kd ?ku ?_; (case k1 => k_asm); (case k2 => k_asm); (case k3 => k_asm); (case k4 => k_asm); (case k5 => k_asm); (case kK => first | exact rfl | assumption); (case hR => with_reducible assumption); (case kA => with_reducible assumption); (case hs => intro p hp; k_mem); (case kd => ktr_room); (case ku => ktr_units)); intro l9 u9 n9 R9 h9 tk9 r9 m9 sub9 lt9 F9 N9; (try dsimp only); (try k_fold))
        | (k_dflt (refine' use_behN ?kA ?k1 ?k2 ?k3 ?k4 ?k5 ?kK ?hR ?hs ?kd ?ku ?_; (case k1 => k_asm); (case k2 => k_asm); (case k3 => k_asm); (case k4 => k_asm); (case k5 => k_asm); (case kK => first | exact rfl | assumption); (case hR => with_reducible assumption); (case kA => with_reducible assumption); (case hs => intro p hp; k_mem); (case kd => ktr_room); (case ku => ktr_units)); intro l9 n9 R9 h9 tk9 m9 sub9 lt9 F9 N9; (try dsimp only); (try k_fold))
        | (k_dflt (refine' use_ask3 ?kA ?k1 ?k2 ?k3 ?k4 ?k5 ?kK ?hR ?hs ?f0 ?f1 ?f2 ?kd ?ku ?_; (case k1 => k_asm); (case k2 => k_asm); (case k3 => k_asm); (case k4 => k_asm); (case k5 => k_asm); (case kK => first | exact rfl | assumption); (case hR => with_reducible assumption); (case kA => with_reducible assumption); (case hs => intro p hp; k_mem); (case f0 => k_all); (case f1 => k_all); (case f2 => k_all); (case kd => ktr_room); (case ku => ktr_units)); intro l9 vs9 n9 R9 h9 tk9 S9 e9 m9 sub9 lt9 g0 g1 g2 F9 N9; (try dsimp only); (try k_fold))
        | (k_dflt (refine' use_ask2 ?kA ?k1 ?k2 ?k3 ?k4 ?k5 ?kK ?hR ?hs ?f0 ?f1 ?kd ?ku ?_; (case k1 => k_asm); (case k2 => k_asm); (case k3 => k_asm); (case k4 => k_asm); (case k5 => k_asm); (case kK => first | exact rfl | assumption); (case hR => with_reducible assumption); (case kA => with_reducible assumption); (case hs => intro p hp; k_mem); (case f0 => k_all); (case f1 => k_all); (case kd => ktr_room); (case ku => ktr_units)); intro l9 vs9 n9 R9 h9 tk9 S9 e9 m9 sub9 lt9 g0 g1 F9 N9; (try dsimp only); (try k_fold))
        | (k_dflt (refine' use_ask0 ?kA ?k1 ?k2 ?k3 ?k4 ?k5 ?kK ?hR ?hs  ?kd ?ku ?_; (case k1 => k_asm); (case k2 => k_asm); (case k3 => k_asm); (case k4 => k_asm); (case k5 => k_asm); (case kK => first | exact rfl | assumption); (case hR => with_reducible assumption); (case kA => with_reducible assumption); (case hs => intro p hp; k_mem); (case kd => ktr_room); (case ku => ktr_units)); intro l9 vs9 n9 R9 h9 tk9 S9 e9 m9 sub9 lt9  F9 N9; (try dsimp only); (try k_fold)))
      | (k_unfold; (try dsimp only))
      | (k_end; wrow_close)
      | walk1
      | (dsimp only; walk1)
      | (leave1; walk_say "STEP leave1"; try dsimp only))
    all_goals (first
      | (refine' ask_end hret ?kF ?kN ?hl ?hv ?al ?sl ?hs; (case kF => k_asm); (case kN => k_asm); (case hl => k_mem); (case hv => ((try simp only [List.nil_append]); first | with_reducible assumption | exact StrsAre.nil | exact StrsAre.cons _ _ StrsAre.nil | exact StrsAre_app (by with_reducible assumption) (by with_reducible assumption) | exact StrsAre_app (StrsAre_app (by with_reducible assumption) (by with_reducible assumption)) (by with_reducible assumption))); (case al => first | tbn_find | exact allLt_of (by with_reducible assumption)); (case sl => intro p hp; k_mem); (case hs => intro p hp; k_mem))
      | skip)
    all_goals w_report)
set_option maxHeartbeats 8000000 in
theorem l_call1 {a : Tr} {n : Nat} {xs : List Str} (HA : Asks 61 a n xs) (hn : n < 100) (hx : xs.length ≤ 256) : Asks 61 (.call1 a) (n + 3) xs := by
  intro w mean mg mb q news hR
  unfold Does
  w_top off
  k_fill
  intro dp un gd cn cs a₀ ccd cl outer A₀ base h₀ L m s Q E B F X N T hk hroom hun hret
  cases hR
  rename_i hm hp hu
  w_strict (
    refine wpAny_call ?_
    k_dflt ktr_enter
    repeat' (first
      | ((with_reducible show wpAny _ _ (call (Value.ref _) _) _ _ _); first
        | (k_dflt (refine' use_behY ?kA ?k1 ?k2 ?k3 ?k4 ?k5 ?kK ?hR ?hs ?kd ?ku ?_; (case k1 => k_asm); (case k2 => k_asm); (case k3 => k_asm); (case k4 => k_asm); (case k5 => k_asm); (case kK => first | exact rfl | assumption); (case hR => with_reducible assumption); (case kA => with_reducible assumption); (case hs => intro p hp; k_mem); (case kd => ktr_room); (case ku => ktr_units)); intro l9 u9 n9 R9 h9 tk9 r9 m9 sub9 lt9 F9 N9; (try dsimp only); (try k_fold))
        | (k_dflt (refine' use_behN ?kA ?k1 ?k2 ?k3 ?k4 ?k5 ?kK ?hR ?hs ?kd ?ku ?_; (case k1 => k_asm); (case k2 => k_asm); (case k3 => k_asm); (case k4 => k_asm); (case k5 => k_asm); (case kK => first | exact rfl | assumption); (case hR => with_reducible assumption); (case kA => with_reducible assumption); (case hs => intro p hp; k_mem); (case kd => ktr_room); (case ku => ktr_units)); intro l9 n9 R9 h9 tk9 m9 sub9 lt9 F9 N9; (try dsimp only); (try k_fold))
        | (k_dflt (refine' use_ask3 ?kA ?k1 ?k2 ?k3 ?k4 ?k5 ?kK ?hR ?hs ?f0 ?f1 ?f2 ?kd ?ku ?_; (case k1 => k_asm); (case k2 => k_asm); (case k3 => k_asm); (case k4 => k_asm); (case k5 => k_asm); (case kK => first | exact rfl | assumption); (case hR => with_reducible assumption); (case kA => with_reducible assumption); (case hs => intro p hp; k_mem); (case f0 => k_all); (case f1 => k_all); (case f2 => k_all); (case kd => ktr_room); (case ku => ktr_units)); intro l9 vs9 n9 R9 h9 tk9 S9 e9 m9 sub9 lt9 g0 g1 g2 F9 N9; (try dsimp only); (try k_fold))
        | (k_dflt (refine' use_ask2 ?kA ?k1 ?k2 ?k3 ?k4 ?k5 ?kK ?hR ?hs ?f0 ?f1 ?kd ?ku ?_; (case k1 => k_asm); (case k2 => k_asm); (case k3 => k_asm); (case k4 => k_asm); (case k5 => k_asm); (case kK => first | exact rfl | assumption); (case hR => with_reducible assumption); (case kA => with_reducible assumption); (case hs => intro p hp; k_mem); (case f0 => k_all); (case f1 => k_all); (case kd => ktr_room); (case ku => ktr_units)); intro l9 vs9 n9 R9 h9 tk9 S9 e9 m9 sub9 lt9 g0 g1 F9 N9; (try dsimp only); (try k_fold))
        | (k_dflt (refine' use_ask0 ?kA ?k1 ?k2 ?k3 ?k4 ?k5 ?kK ?hR ?hs  ?kd ?ku ?_; (case k1 => k_asm); (case k2 => k_asm); (case k3 => k_asm); (case k4 => k_asm); (case k5 => k_asm); (case kK => first | exact rfl | assumption); (case hR => with_reducible assumption); (case kA => with_reducible assumption); (case hs => intro p hp; k_mem); (case kd => ktr_room); (case ku => ktr_units)); intro l9 vs9 n9 R9 h9 tk9 S9 e9 m9 sub9 lt9  F9 N9; (try dsimp only); (try k_fold)))
      | (k_unfold; (try dsimp only))
      | (k_end; wrow_close)
      | walk1
      | (dsimp only; walk1)
      | (leave1; walk_say "STEP leave1"; try dsimp only))
    all_goals (first
      | (refine' ask_end hret ?kF ?kN ?hl ?hv ?al ?sl ?hs; (case kF => k_asm); (case kN => k_asm); (case hl => k_mem); (case hv => ((try simp only [List.nil_append]); first | with_reducible assumption | exact StrsAre.nil | exact StrsAre.cons _ _ StrsAre.nil | exact StrsAre_app (by with_reducible assumption) (by with_reducible assumption) | exact StrsAre_app (StrsAre_app (by with_reducible assumption) (by with_reducible assumption)) (by with_reducible assumption))); (case al => first | tbn_find | exact allLt_of (by with_reducible assumption)); (case sl => intro p hp; k_mem); (case hs => intro p hp; k_mem))
      | skip)
    all_goals w_report)
set_option maxHeartbeats 8000000 in
theorem l_call2 {a b : Tr} {n : Nat} {xs ys : List Str} (HA : Asks 61 a n xs) (HB : Asks 61 b n ys) (hn : n < 100) (hx : xs.length ≤ 256) (hy : ys.length ≤ 256) : Asks 61 (.call2 a b) (n + 3) (xs ++ ys) := by
  intro w mean mg mb q news hR
  unfold Does
  w_top off
  k_fill
  intro dp un gd cn cs a₀ ccd cl outer A₀ base h₀ L m s Q E B F X N T hk hroom hun hret
  cases hR
  rename_i hm hp hu hv
  w_strict (
    refine wpAny_call ?_
    k_dflt ktr_enter
    repeat' (first
      | ((with_reducible show wpAny _ _ (call (Value.ref _) _) _ _ _); first
        | (k_dflt (refine' use_behY ?kA ?k1 ?k2 ?k3 ?k4 ?k5 ?kK ?hR ?hs ?kd ?ku ?_; (case k1 => k_asm); (case k2 => k_asm); (case k3 => k_asm); (case k4 => k_asm); (case k5 => k_asm); (case kK => first | exact rfl | assumption); (case hR => with_reducible assumption); (case kA => with_reducible assumption); (case hs => intro p hp; k_mem); (case kd => ktr_room); (case ku => ktr_units)); intro l9 u9 n9 R9 h9 tk9 r9 m9 sub9 lt9 F9 N9; (try dsimp only); (try k_fold))
        | (k_dflt (refine' use_behN ?kA ?k1 ?k2 ?k3 ?k4 ?k5 ?kK ?hR ?hs ?kd ?ku ?_; (case k1 => k_asm); (case k2 => k_asm); (case k3 => k_asm); (case k4 => k_asm); (case k5 => k_asm); (case kK => first | exact rfl | assumption); (case hR => with_reducible assumption); (case kA => with_reducible assumption); (case hs => intro p hp; k_mem); (case kd => ktr_room); (case ku => ktr_units)); intro l9 n9 R9 h9 tk9 m9 sub9 lt9 F9 N9; (try dsimp only); (try k_fold))
        | (k_dflt (refine' use_ask3 ?kA ?k1 ?k2 ?k3 ?k4 ?k5 ?kK ?hR ?hs ?f0 ?f1 ?f2 ?kd ?ku ?_; (case k1 => k_asm); (case k2 => k_asm); (case k3 => k_asm); (case k4 => k_asm); (case k5 => k_asm); (case kK => first | exact rfl | assumption); (case hR => with_reducible assumption); (case kA => with_reducible assumption); (case hs => intro p hp; k_mem); (case f0 => k_all); (case f1 => k_all); (case f2 => k_all); (case kd => ktr_room); (case ku => ktr_units)); intro l9 vs9 n9 R9 h9 tk9 S9 e9 m9 sub9 lt9 g0 g1 g2 F9 N9; (try dsimp only); (try k_fold))
        | (k_dflt (refine' use_ask2 ?kA ?k1 ?k2 ?k3 ?k4 ?k5 ?kK ?hR ?hs ?f0 ?f1 ?kd ?ku ?_; (case k1 => k_asm); (case k2 => k_asm); (case k3 => k_asm); (case k4 => k_asm); (case k5 => k_asm); (case kK => first | exact rfl | assumption); (case hR => with_reducible assumption); (case kA => with_reducible assumption); (case hs => intro p hp; k_mem); (case f0 => k_all); (case f1 => k_all); (case kd => ktr_room); (case ku => ktr_units)); intro l9 vs9 n9 R9 h9 tk9 S9 e9 m9 sub9 lt9 g0 g1 F9 N9; (try dsimp only); (try k_fold))
        | (k_dflt (refine' use_ask0 ?kA ?k1 ?k2 ?k3 ?k4 ?k5 ?kK ?hR ?hs  ?kd ?ku ?_; (case k1 => k_asm); (case k2 => k_asm); (case k3 => k_asm); (case k4 => k_asm); (case k5 => k_asm); (case kK => first | exact rfl | assumption); (case hR => with_reducible assumption); (case kA => with_reducible assumption); (case hs => intro p hp; k_mem); (case kd => ktr_room); (case ku => ktr_units)); intro l9 vs9 n9 R9 h9 tk9 S9 e9 m9 sub9 lt9  F9 N9; (try dsimp only); (try k_fold)))
      | (k_unfold; (try dsimp only))
      | (k_end; wrow_close)
      | walk1
      | (dsimp only; walk1)
      | (leave1; walk_say "STEP leave1"; try dsimp only))
    all_goals (first
      | (refine' ask_end hret ?kF ?kN ?hl ?hv ?al ?sl ?hs; (case kF => k_asm); (case kN => k_asm); (case hl => k_mem); (case hv => ((try simp only [List.nil_append]); first | with_reducible assumption | exact StrsAre.nil | exact StrsAre.cons _ _ StrsAre.nil | exact StrsAre_app (by with_reducible assumption) (by with_reducible assumption) | exact StrsAre_app (StrsAre_app (by with_reducible assumption) (by with_reducible assumption)) (by with_reducible assumption))); (case al => first | tbn_find | exact allLt_of (by with_reducible assumption)); (case sl => intro p hp; k_mem); (case hs => intro p hp; k_mem))
      | skip)
    all_goals w_report)
end Mine

namespace Mine
set_option maxRecDepth 100000

theorem Asks.le {f : Addr} {t : Tr} {n n' : Nat} {xs : List Str} (h : Asks f t n xs) (hn : n ≤ n') : Asks f t n' xs := by
  intro w mean mg mb q news hR dp un gd cn cs a ccd cl outer A₀ base h₀ L m s Q E B F X N T hk hd hu hret
  exact h w mean mg mb q news hR dp un gd cn cs a ccd cl outer A₀ base h₀ L m s Q E B F X N T hk (by omega) (by omega) hret

theorem asks_all : ∀ t : Tr, t.dep ≤ 8 → Asks 21 t (3 * t.dep + 3) t.both.1 ∧ Asks 28 t (3 * t.dep + 3) t.both.2
  | .name x, _ => ⟨a_name, h_name⟩
  | .text, _ => ⟨a_text, h_text⟩
  | .whole, _ => ⟨a_whole, h_whole⟩
  | .null, _ => ⟨a_null, h_null⟩
  | .item, _ => ⟨a_item, h_item⟩
  | .call0, _ => ⟨a_call0, h_call0⟩
  | .call1 a, h => by
    simp only [Tr.dep] at h ⊢
    have ha := asks_all a (by omega)
    have la := Tr.both_le (t := a) (by omega)
    exact ⟨(a_call1 ha.1 (by omega) la.1).le (by omega), h_call1.le (by omega)⟩
  | .call2 a b, h => by
    simp only [Tr.dep] at h ⊢
    have ha := asks_all a (by omega)
    have hb := asks_all b (by omega)
    have la := Tr.both_le (t := a) (by omega)
    have lb := Tr.both_le (t := b) (by omega)
    exact ⟨(a_call2 (n := 3 * max a.dep b.dep + 3) (ha.1.le (by omega)) (hb.1.le (by omega)) (by omega) la.1 lb.1).le (by omega), h_call2.le (by omega)⟩
  | .join a b, h => by
    simp only [Tr.dep] at h ⊢
    have ha := asks_all a (by omega)
    have hb := asks_all b (by omega)
    have la := Tr.both_le (t := a) (by omega)
    have lb := Tr.both_le (t := b) (by omega)
    exact ⟨(a_join (n := 3 * max a.dep b.dep + 3) (ha.1.le (by omega)) (hb.1.le (by omega)) (by omega) la.1 lb.1).le (by omega), h_join.le (by omega)⟩
  | .bin o a b, h => by
    simp only [Tr.dep] at h ⊢
    have ha := asks_all a (by omega)
    have hb := asks_all b (by omega)
    have la := Tr.both_le (t := a) (by omega)
    have lb := Tr.both_le (t := b) (by omega)
    refine ⟨?_, ?_⟩
    · cases o with
      | plain => exact (a_binP (n := 3 * max a.dep b.dep + 3) (ha.1.le (by omega)) (hb.1.le (by omega)) (by omega) la.1 lb.1).le (by omega)
      | told => exact (a_binD (n := 3 * max a.dep b.dep + 3) (ha.1.le (by omega)) (hb.2.le (by omega)) (by omega) la.1 lb.2).le (by omega)
    · cases o <;> exact h_bin.le (by omega)
  | .una o a, h => by
    simp only [Tr.dep] at h ⊢
    have ha := asks_all a (by omega)
    have la := Tr.both_le (t := a) (by omega)
    cases o with
    | plain => exact ⟨(a_unaP ha.1 (by omega) la.1).le (by omega), h_unaP.le (by omega)⟩
    | dol => exact ⟨(a_unaL ha.1 (by omega) la.1).le (by omega), (h_unaL ha.1 (by omega) la.1).le (by omega)⟩
    | told => exact ⟨(a_unaD ha.2 (by omega) la.2).le (by omega), h_unaD.le (by omega)⟩
    | star => exact ⟨a_unaS.le (by omega), h_unaS.le (by omega)⟩

/-- which trees begin with $ -/
theorem beh_all : ∀ t : Tr, (∃ a, t = .una .dol a) ∨ (BehN t ∧ t.both.2 = [])
  | .name x => .inr ⟨b_name, rfl⟩
  | .text => .inr ⟨b_text, rfl⟩
  | .whole => .inr ⟨b_whole, rfl⟩
  | .null => .inr ⟨b_null, rfl⟩
  | .item => .inr ⟨b_item, rfl⟩
  | .call0 => .inr ⟨b_call0, rfl⟩
  | .call1 a => .inr ⟨b_call1, rfl⟩
  | .call2 a b => .inr ⟨b_call2, rfl⟩
  | .join a b => .inr ⟨b_join, rfl⟩
  | .bin o a b => .inr ⟨b_bin, by cases o <;> rfl⟩
  | .una .plain a => .inr ⟨b_unaP, rfl⟩
  | .una .dol a => .inl ⟨a, rfl⟩
  | .una .told a => .inr ⟨b_unaD, rfl⟩
  | .una .star a => .inr ⟨b_unaS, rfl⟩

theorem law_one (t : Tr) (ih : ∀ t' : Tr, t'.dep < t.dep → Asks 61 t' (15 * t'.dep + 15) t'.both.1) (h : t.dep ≤ 5) : Asks 61 t (15 * t.dep + 15) t.both.1 := by
  cases t with
  | name x => exact l_name.le (by simp only [Tr.dep]; omega)
  | text => exact l_text.le (by simp only [Tr.dep]; omega)
  | whole => exact l_whole.le (by simp only [Tr.dep]; omega)
  | null => exact l_null.le (by simp only [Tr.dep]; omega)
  | item => exact l_item.le (by simp only [Tr.dep]; omega)
  | call0 => exact l_call0.le (by simp only [Tr.dep]; omega)
  | call1 a =>
    simp only [Tr.dep] at h ih ⊢
    have ha := ih a (by omega)
    have la := Tr.both_le (t := a) (by omega)
    exact (l_call1 ha (by omega) la.1).le (by omega)
  | call2 a b =>
    simp only [Tr.dep] at h ih ⊢
    have ha := ih a (by omega)
    have hb := ih b (by omega)
    have la := Tr.both_le (t := a) (by omega)
    have lb := Tr.both_le (t := b) (by omega)
    exact (l_call2 (n := 15 * max a.dep b.dep + 15) (ha.le (by omega)) (hb.le (by omega)) (by omega) la.1 lb.1).le (by omega)
  | join a b =>
    simp only [Tr.dep] at h ih ⊢
    have ha := ih a (by omega)
    have hb := ih b (by omega)
    have la := Tr.both_le (t := a) (by omega)
    have lb := Tr.both_le (t := b) (by omega)
    exact (l_join (n := 15 * max a.dep b.dep + 15) (ha.le (by omega)) (hb.le (by omega)) (by omega) la.1 lb.1).le (by omega)
  | bin o a b =>
    simp only [Tr.dep] at h ih ⊢
    have ha := ih a (by omega)
    have hb := ih b (by omega)
    have la := Tr.both_le (t := a) (by omega)
    have lb := Tr.both_le (t := b) (by omega)
    cases o with
    | plain => exact (l_binP (n := 15 * max a.dep b.dep + 15) (ha.le (by omega)) (hb.le (by omega)) (by omega) la.1 lb.1).le (by omega)
    | told =>
      rcases beh_all b with ⟨c, rfl⟩ | ⟨hN, e⟩
      · simp only [Tr.dep] at h ih ⊢
        have hc := ih c (by omega)
        have lc := Tr.both_le (t := c) (by omega)
        exact (l_binDY (n := 15 * max a.dep (c.dep + 1) + 15) (ha.le (by omega)) (hc.le (by omega)) (by omega) la.1 lc.1 b_unaL).le (by omega)
      · show Asks 61 (.bin .told a b) _ (a.both.1 ++ b.both.2)
        rw [e, List.append_nil]
        exact (l_binDN ha hN (by omega) la.1).le (by omega)
  | una o a =>
    simp only [Tr.dep] at h ih ⊢
    have ha := ih a (by omega)
    have la := Tr.both_le (t := a) (by omega)
    cases o with
    | plain => exact (l_unaP ha (by omega) la.1).le (by omega)
    | dol => exact (l_unaL ha (by omega) la.1).le (by omega)
    | star => exact l_unaS.le (by omega)
    | told =>
      rcases beh_all a with ⟨c, rfl⟩ | ⟨hN, e⟩
      · simp only [Tr.dep] at h ih ⊢
        have hc := ih c (by omega)
        have lc := Tr.both_le (t := c) (by omega)
        exact (l_unaDY hc (by omega) lc.1 b_unaL).le (by omega)
      · show Asks 61 (.una .told a) _ a.both.2
        rw [e]
        exact (l_unaDN hN).le (by omega)
theorem law_all : ∀ (k : Nat) (t : Tr), t.dep < k → t.dep ≤ 5 → Asks 61 t (15 * t.dep + 15) t.both.1
  | 0, _, h, _ => absurd h (Nat.not_lt_zero _)
  | k + 1, t, h, h5 => law_one t (fun t' ht => law_all k t' (by omega) (by omega)) h5

theorem one_asks {t : Tr} (h : t.dep ≤ 2) : Asks 21 t 9 t.both.1 := (asks_all t (by omega)).1.le (by omega)
theorem one_behind {t : Tr} (h : t.dep ≤ 2) : Asks 28 t 9 t.both.2 := (asks_all t (by omega)).2.le (by omega)
theorem one_law {t : Tr} (h : t.dep ≤ 2) : Asks 61 t 45 t.both.1 := (law_all 6 t (by omega) (by omega)).le (by omega)
theorem in_law {o : UOp} {t : Tr} (h : (Tr.una o t).dep ≤ 2) : Asks 61 t 45 t.both.1 := one_law (by simp only [Tr.dep] at h; omega)
theorem in_law2 {t a : Tr} (e : t = .una .dol a) (h : t.dep ≤ 2) : Asks 61 a 45 a.both.1 := in_law (o := .dol) (e ▸ h)
theorem whole_asks {t u : Tr} (h : t.dep ≤ 2) (k : u.dep ≤ 2) : Asks 21 (.join t (.una .told (.una .dol u))) 18 (t.both.1 ++ u.both.1) :=
  (asks_all (.join t (.una .told (.una .dol u))) (by simp only [Tr.dep]; omega)).1.le (by simp only [Tr.dep]; omega)
theorem one_len {t : Tr} (h : t.dep ≤ 2) : t.both.1.length ≤ 256 ∧ t.both.2.length ≤ 256 := Tr.both_le (by omega)
end Mine

namespace Mine
set_option maxRecDepth 100000
theorem Rel.mono2 {news news' : List (Addr × Obj)} {q : Addr} {t : Tr} (h : Rel news q t) (hs : ∀ p ∈ news, p ∈ news') : Rel news' q t := h.mono hs
theorem size_small {n : Nat} (h : n ≤ 100) : n ≤ sizeLine := by rw [sizeLine_eq]; omega
section
variable {w : World} {M : Around} {h₀ : Heap} {L : Addr} {m : Str → Option Value} {s : Shared} {Q : Value → Shared → Prop} {E : Value → Shared → Prop} {news news₀ : List (Addr × Obj)}
/-- tree[:2] of a drawn tree: the four makes that the comparison tells apart -/
theorem slice_tree {value slice : PySem.Expr} {q : Addr} {t : Tr} {u : Tok} (F : Fr h₀ L s.heap m) (N : News h₀ L s.heap news) (R : Rel news₀ q t) (sub : ∀ p ∈ news₀, p ∈ news)
    (hs : subscripted slice false (.ref q) (.ref s.heap.objs.size) = operate [.ref s.heap.objs.size, .ref q] (getItem (.ref q) (.ref s.heap.objs.size)))
    (hg : ∀ r, letTemporaryGo value (.ref q) r = pure ())
    (g1 : ∀ D h' t1 t2 v a, t = .una .dol a → t.both.2 = a.both.1 → (q, tupO [.str (Str.ofString "unary") t1, .str (Str.ofString "$") t2, .ref v]) ∈ news → Rel news v a → Fr h₀ L h' m → News h₀ L h' ((D, tupO [.str (Str.ofString "unary") t1, .str (Str.ofString "$") t2]) :: news) → Q (.ref D) { s with heap := h' })
    (g2 : ∀ D h' t1 t2 x, t.both.2 = [] → (x == Str.ofString "$") = false → Fr h₀ L h' m → News h₀ L h' ((D, tupO [.str (Str.ofString "unary") t1, .str x t2]) :: news) → Q (.ref D) { s with heap := h' })
    (g3 : ∀ D h' x t1 v, t.both.2 = [] → (x == Str.ofString "unary") = false → Fr h₀ L h' m → News h₀ L h' ((D, tupO [.str x t1, v]) :: news) → Q (.ref D) { s with heap := h' })
    (g4 : ∀ h' x t1 r, t.both.2 = [] → (x == Str.ofString "unary") = false → (q, tupO (.str x t1 :: r)) ∈ news → Fr h₀ L h' m → News h₀ L h' news → Q (.ref q) { s with heap := h' }) :
    wpAny (model PySem.Challenge.rw_rh0222_01.row.prog w) M (subscriptTail value slice (.ref q) (.ref s.heap.objs.size)) Q E { s with heap := s.heap.push { cls := .type "slice", data := .fields #[.none, .int 2 u, .none] } } := by
  cases R with
  | name hm => exact my_two_whole F N (sub _ hm) (Nat.le_refl 2) (fun h' F' N' => g4 h' _ _ _ rfl (by decide +kernel) (sub _ hm) F' N') hs hg
  | text hm => exact my_two_whole F N (sub _ hm) (Nat.le_refl 2) (fun h' F' N' => g4 h' _ _ _ rfl (by decide +kernel) (sub _ hm) F' N') hs hg
  | whole hm => exact my_two_whole F N (sub _ hm) (Nat.le_refl 2) (fun h' F' N' => g4 h' _ _ _ rfl (by decide +kernel) (sub _ hm) F' N') hs hg
  | null hm => exact my_two_whole F N (sub _ hm) (Nat.le_succ 1) (fun h' F' N' => g4 h' _ _ _ rfl (by decide +kernel) (sub _ hm) F' N') hs hg
  | join hm _ _ => exact my_two_cut F N (sub _ hm) (Nat.le_refl 3) rfl (fun D h' F' N' _ => g3 D h' _ _ _ rfl (by decide +kernel) F' N') hs hg (size_small (Nat.le_of_ble_eq_true rfl))
  | item hm => exact my_two_cut F N (sub _ hm) (Nat.le_refl 3) rfl (fun D h' F' N' _ => g3 D h' _ _ _ rfl (by decide +kernel) F' N') hs hg (size_small (Nat.le_of_ble_eq_true rfl))
  | call0 hm _ => exact my_two_cut F N (sub _ hm) (Nat.le_refl 3) rfl (fun D h' F' N' _ => g3 D h' _ _ _ rfl (by decide +kernel) F' N') hs hg (size_small (Nat.le_of_ble_eq_true rfl))
  | call1 hm _ _ => exact my_two_cut F N (sub _ hm) (Nat.le_refl 3) rfl (fun D h' F' N' _ => g3 D h' _ _ _ rfl (by decide +kernel) F' N') hs hg (size_small (Nat.le_of_ble_eq_true rfl))
  | call2 hm _ _ _ => exact my_two_cut F N (sub _ hm) (Nat.le_refl 3) rfl (fun D h' F' N' _ => g3 D h' _ _ _ rfl (by decide +kernel) F' N') hs hg (size_small (Nat.le_of_ble_eq_true rfl))
  | @bin _ _ _ _ _ _ o _ _ hm _ _ _ => exact my_two_cut F N (sub _ hm) (Nat.le_succ 3) rfl (fun D h' F' N' _ => g3 D h' _ _ _ (by cases o <;> rfl) (by decide +kernel) F' N') hs hg (size_small (Nat.le_of_ble_eq_true rfl))
  | @una _ _ _ _ _ o a hm ho hu =>
    cases o with
    | dol =>
      cases ho
      exact my_two_cut F N (sub _ hm) (Nat.le_refl 3) rfl (fun D h' F' N' _ => g1 D h' _ _ _ a rfl rfl (sub _ hm) (hu.mono sub) F' N') hs hg (size_small (Nat.le_of_ble_eq_true rfl))
    | plain => exact my_two_cut F N (sub _ hm) (Nat.le_refl 3) rfl (fun D h' F' N' _ => g2 D h' _ _ _ rfl ho.2.2 F' N') hs hg (size_small (Nat.le_of_ble_eq_true rfl))
    | told => exact my_two_cut F N (sub _ hm) (Nat.le_refl 3) rfl (fun D h' F' N' _ => g2 D h' _ _ _ rfl ho.2.2 F' N') hs hg (size_small (Nat.le_of_ble_eq_true rfl))
    | star =>
      cases ho
      exact my_two_cut F N (sub _ hm) (Nat.le_refl 3) rfl (fun D h' F' N' _ => g2 D h' _ _ _ rfl (by decide +kernel) F' N') hs hg (size_small (Nat.le_of_ble_eq_true rfl))
theorem my_ne_lists2 {A : Around} {l b : Addr} {n n2 : Nat} {vs ws : List Value} {xs ys : List Str} (N : News h₀ L s.heap news) (ha : (l, W.listOf vs.toArray n) ∈ news) (hb : (b, W.listOf ws.toArray n2) ∈ news) (hv : StrsAre vs xs) (hw : StrsAre ws ys) (e : xs = ys) (hu : A.units < cLine)
    (h : Q (.bool false) s) : wpAny (model PySem.Challenge.rw_rh0222_01.row.prog w) A (compareOp .NotEq (.ref l) (.ref b)) Q E s := by
  subst e
  exact my_ne_lists N ha hb hv hw hu h
end
end Mine

namespace Mine
set_option maxRecDepth 100000

local macro_rules | `(tactic| walk_at "ite") => `(tactic| (k_here; first | (with_reducible refine' PySem.W.ite_pos ?c ?_; (case c => with_reducible assumption)) | (with_reducible refine' PySem.W.ite_neg ?c ?_; (case c => with_reducible exact ite_sure (by with_reducible assumption)))))
local macro_rules | `(tactic| walk_at "ite") => `(tactic| (k_closed; first | (with_reducible refine' PySem.W.ite_pos ?c ?_; (case c => k_dflt decide)) | (with_reducible refine' PySem.W.ite_neg ?c ?_; (case c => k_dflt decide))))
local macro_rules | `(tactic| k_all) => `(tactic| assumption)
local macro_rules | `(tactic| is_list) => `(tactic| exact News.isList (by k_asm) (by k_mem))
local macro_rules | `(tactic| k_mem) => `(tactic| ((repeat (first | with_reducible assumption | with_reducible exact List.mem_cons_self | with_reducible refine List.mem_cons_of_mem _ ?_ | with_reducible refine (show ∀ p ∈ _, p ∈ _ by with_reducible assumption) _ ?_)); done))
local macro_rules | `(tactic| walk_at "newTuple") => `(tactic| (k_here; k_dflt (refine' kup_newTuple ?F ?N ?_ ?z; (case F => k_asm); (case N => k_asm); (case z => kmk_size)); intro D' h' F' N' l1; (try k_lt l1); (try k_sweep)))
local macro_rules | `(tactic| walk_at "binaryOp Add ref ref") => `(tactic| (k_here; k_dflt (refine' my_add ?F ?N ?a ?b ?v ?w ?_; (case F => k_asm); (case N => k_asm); (case a => k_mem); (case b => k_mem); (case v => (try simp only [List.length_append, List.length_cons, List.length_nil]); omega); (case w => (try simp only [List.length_append, List.length_cons, List.length_nil]); omega)); intro D' h' F' N' l1; (try k_lt l1)))
local macro_rules | `(tactic| walk_at "compareOp NotEq ref ref") => `(tactic| (k_here; k_dflt (refine' my_ne_lists2 ?N ?a ?b ?v ?w ?e ?u ?_; (case N => k_asm); (case a => k_mem); (case b => k_mem); (case v => first | with_reducible assumption | exact StrsAre.nil); (case w => first | with_reducible assumption | exact StrsAre.nil); (case e => first | with_reducible rfl | with_reducible assumption); (case u => ktr_units))))
local macro_rules | `(tactic| walk_at "compareOp Eq ref ref") => `(tactic| (k_here; k_dflt (refine' my_eq_lists ?N ?a ?b ?v ?w ?u ?_; (case N => k_asm); (case a => k_mem); (case b => k_mem); (case v => with_reducible assumption); (case w => first | with_reducible assumption | exact StrsAre_app (by with_reducible assumption) (by with_reducible assumption)); (case u => ktr_units))))
local macro_rules | `(tactic| walk_at "compareOp Eq ref ref") => `(tactic| (k_here; k_dflt (refine' my_eq_pair ?N ?a ?b ?k ?u ?_; (case N => k_asm); (case a => k_mem); (case b => k_mem); (case k => first | with_reducible assumption | exact beq_self_eq_true _); (case u => ktr_units))))
local macro_rules | `(tactic| walk_at "compareOp Eq ref ref") => `(tactic| (k_here; k_dflt (refine' my_eq_first ?N ?a ?b ?k ?u ?_; (case N => k_asm); (case a => k_mem); (case b => k_mem); (case k => with_reducible assumption); (case u => ktr_units))))
local macro_rules | `(tactic| walk_at "subscriptTail Name Slice ref ref") => `(tactic| (
  k_here
  (with_reducible show wpAny _ _ (subscriptTail _ (PySem.Expr.Slice none _ none _) (Value.ref _) (Value.ref _)) _ _ _)
  k_dflt (
    refine' slice_tree ?F ?N ?R ?sub ?s ?g ?_ ?_ ?_ ?_
    (case F => k_asm); (case N => k_asm); (case R => with_reducible assumption); (case sub => intro p hp; k_mem); (case s => with_unfolding_all rfl); (case g => kmk_pure))
  all_goals (first
    | (intro D9 h9 t1 t2 v9 a9 e9 b9 m9 r9 F9 N9; have hin := in_law2 e9 (by with_reducible assumption))
    | intro D9 h9 t1 t2 x9 b9 k9 F9 N9)
  all_goals ((try dsimp only); (try k_fold))))
local macro_rules | `(tactic| walk_at "call ref") => `(tactic| (
  k_here
  k_dflt (
    refine' use_ask0 ?kA ?k1 ?k2 ?k3 ?k4 ?k5 ?kK ?hR ?hs  ?kd ?ku ?_
    (case k1 => k_asm); (case k2 => k_asm); (case k3 => k_asm); (case k4 => k_asm); (case k5 => k_asm); (case kK => first | exact rfl | assumption); (case hR => with_reducible assumption); (case kA => with_reducible assumption); (case hs => intro p hp; k_mem)
    (case kd => ktr_room); (case ku => ktr_units))
  intro l9 vs9 n9 R9 h9 tk9 S9 e9 m9 sub9 lt9  F9 N9
  ((try dsimp only); (try k_fold))))
local macro_rules | `(tactic| walk_at "call ref") => `(tactic| (
  k_here
  k_dflt (
    refine' use_draw tree2 ?k1 ?k2 ?k3 ?k4 ?k5 ?kK ?he ?hs ?hc ?hI ?hl ?ho ?h0 ?h1 ?kd ?ku ?_
    (case k1 => k_asm); (case k2 => k_asm); (case k3 => k_asm); (case k4 => k_asm); (case k5 => k_asm); (case kK => first | exact rfl | assumption); (case he => first | rfl | omega)
    (case hs => first | exact fun _ h => h | exact sub2 | exact sub3 | exact sub4 | exact sub5 | exact sub6); (case hc => k_mem); (case hI => assumption); (case hl => first | assumption | omega); (case ho => k_all); (case h0 => omega); (case h1 => omega)
    (case kd => ktr_room); (case ku => ktr_units))
  intro q9 tr9 turn9 tk2 tl9 rest9 h9 tk9 R9 dp9 t9 u9 O9 subA9 subB9 off9 F9 N9
  replace R9 := R9.mono subA9
  clear subA9
  have hA9 := one_asks (t := tr9) (by assumption)
  have hB9 := one_behind (t := tr9) (by assumption)
  have hL9 := one_law (t := tr9) (by assumption)
  have hl9 := one_len (t := tr9) (by assumption)
  ((try dsimp only); (try k_fold))))
local macro_rules | `(tactic| walk_at "call ref") => `(tactic| (
  k_here
  k_dflt (
    refine' use_ask0 (whole_asks ?d1 ?d2) ?k1 ?k2 ?k3 ?k4 ?k5 ?kK ?hR ?hs ?kd ?ku ?_
    (case k1 => k_asm); (case k2 => k_asm); (case k3 => k_asm); (case k4 => k_asm); (case k5 => k_asm); (case kK => first | exact rfl | assumption)
    (case hs => exact fun _ h => h)
    (case hR => exact Rel.join (by k_mem) (Rel.mono2 (by with_reducible assumption) (by intro p hp; k_mem)) (Rel.una (by k_mem) u_dot (Rel.una (by k_mem) u_dol (Rel.mono2 (by with_reducible assumption) (by intro p hp; k_mem)))))
    (case d1 => with_reducible assumption); (case d2 => with_reducible assumption)
    (case kd => ktr_room); (case ku => ktr_units))
  intro l9 vs9 n9 R9 h9 tk9 S9 e9 m9 sub9 lt9 F9 N9
  ((try dsimp only); (try k_fold))))

set_option maxHeartbeats 8000000 in
theorem holds : PySem.Challenge.rw_rh0222_01.Holds := hd (by
  w_strict (
    k_go0
    all_goals try k_fold
    k_steps
    all_goals w_report))
end Mine

theorem PySem.Challenge.cw_rh0222_01_holds : PySem.Challenge.rw_rh0222_01.Holds :=
  Mine.holds
