import PyProof.Rows.All
import Wide.All
import OpenK.AllK
import Wide.FinOn
import PySem.Challenge.RW_nn0296_01
open PySem PySem.W PyProof.Rows
set_option Elab.async false
set_option maxRecDepth 100000
set_option maxHeartbeats 8000000
set_option rowWalk.seconds 0

namespace Mine
open_top hd for PySem.Challenge.rw_nn0296_01
end Mine
namespace Mine
/-- what a call of the def at f does, from any frame (d: the frames it may take): `post v news'` says of the answer and of the ledger behind it -/
def Ct (d : Nat) (f : Addr) (vs : List Value) (news : List (Addr × Obj)) (post : Value → List (Addr × Obj) → Prop) : Prop :=
  ∀ (w : World) (mean : ExcName → Option Value) (mg mb : Str → Option Value) (dp un : Nat) (gd : Option (List Code)) (cn : Str) (cs : Scope) (a : Addr) (ccd : Value) (cl : List (Str × Addr)) (outer : List Env)
    (A₀ : Around) (base h₀ : Heap) (L : Addr) (m : Str → Option Value) (s : Shared) (Q E : Value → Shared → Prop),
    Below A₀ base outer h₀ → Fr h₀ L s.heap m → (hd.heap_39 w.params).In h₀ → News h₀ L s.heap news →
    Top hd.view_39 (looseW hd.view_39 [Str.ofString "GateloomError"]) mean mg mb h₀ → cs.kind = .function → dp + d < recursionLimit → un + 100 * d < cLine →
    (∀ v news' h' tk', post v news' → Fr h₀ L h' m → News h₀ L h' news' → Q v { s with heap := h', toks := tk' }) →
    wpAny (model PySem.Challenge.rw_nn0296_01.row.prog w) (ktrTop dp un gd cn cs L a ccd cl outer) (call (.ref f) vs) Q E s
/-- an int comes back, the ledger stands -/
def isInt (news : List (Addr × Obj)) (i : Int) : Value → List (Addr × Obj) → Prop := fun v news' => news' = news ∧ ∃ t, v = .int i t
theorem isInt.mk {news : List (Addr × Obj)} {i j : Int} {t : Tok} (h : j = i) : isInt news i (.int j t) news := ⟨rfl, t, by rw [h]⟩
theorem sub1 {q : Addr × Obj} {a b : List (Addr × Obj)} : ∀ p ∈ q :: a, p ∈ q :: (a ++ b) := fun p hp => by
  rcases List.mem_cons.mp hp with h | h
  · exact h ▸ .head _
  · exact .tail _ (List.mem_append_left _ h)
def opp (v : Int) : Int := if v = 0 then 1 else if v = 1 then 0 else 3
theorem opp_ct (news : List (Addr × Obj)) (i : Int) (t : Tok) : Ct 1 61 [.int i t] news (isInt news (opp i)) := by
  unfold Ct
  w_top off
  k_fill
  intro w mean mg mb dp un gd cn cs a ccd cl outer A₀ base h₀ L m s Q E B F X N T hk hdp hun hret
  refine wpAny_call ?_
  k_dflt cell_enter
  k_steps
  all_goals exact hret _ _ _ _ (isInt.mk (by simp [opp, *])) (by assumption) (by assumption)
theorem all_snoc {pre : List Int} {c : Int} : (∀ n ∈ pre ++ [c], n = c) ↔ ∀ n ∈ pre, n = c :=
  ⟨fun q n hn => q n (List.mem_append_left _ hn), fun q n hn => (List.mem_append.mp hn).elim (q n) fun h => List.mem_singleton.mp h⟩
def andC (ns : List Int) : Int := if 0 ∈ ns then 0 else if ∀ n ∈ ns, n = 1 then 1 else 3
def andI (pre : List Int) (r : Int) : Prop := 0 ∉ pre ∧ r = if ∀ n ∈ pre, n = 1 then 1 else 3
theorem andI0 : andI [] 1 := by simp [andI]
theorem andI1 {pre : List Int} {r n : Int} (h : andI pre r) (h0 : n ≠ 0) (h1 : n ≠ 1) : andI (pre ++ [n]) 3 := by
  refine ⟨by simpa [h.1] using Ne.symm h0, ?_⟩
  rw [if_neg (fun q => h1 (q n (by simp)))]
theorem andI2 {pre : List Int} {r n : Int} (h : andI pre r) (h1 : n = 1) : andI (pre ++ [n]) r := by
  subst h1
  refine ⟨by simpa using h.1, ?_⟩
  rw [h.2]
  simp only [all_snoc]
theorem andC_zero {ns pre post : List Int} {n : Int} (e : ns = pre ++ n :: post) (h : n = 0) : 0 = andC ns := by
  subst h e
  simp [andC]
theorem andC_end {ns : List Int} {r : Int} (h : andI ns r) : r = andC ns := by
  rw [andC, if_neg h.1]; exact h.2
theorem and_ct (news : List (Addr × Obj)) (l : Addr) (vs : List Value) (nn : Nat) (ns : List Int) (hi : IntsAre vs ns) : Ct 1 68 [.ref l] ((l, listOf vs.toArray nn) :: news) (isInt ((l, listOf vs.toArray nn) :: news) (andC ns)) := by
  unfold Ct
  w_top off
  k_fill
  k_with "pyIter ref" => k_state andI "result"
  k_with "state" => first | exact andI0 | exact andI1 (by assumption) (by assumption) (by assumption) | exact andI2 (by assumption) (by assumption)
  intro w mean mg mb dp un gd cn cs a ccd cl outer A₀ base h₀ L m s Q E B F X N T hk hdp hun hret
  refine wpAny_call ?_
  k_dflt cell_enter
  k_steps
  · refine hret _ _ _ _ (isInt.mk (andC_zero (by assumption) (by assumption))) (by assumption) (kst_newsOf (by assumption) sub1)
  · refine hret _ _ _ _ (isInt.mk (andC_end (by assumption))) (by assumption) (by assumption)
def orC (ns : List Int) : Int := if 1 ∈ ns then 1 else if ∀ n ∈ ns, n = 0 then 0 else 3
def orI (pre : List Int) (r : Int) : Prop := 1 ∉ pre ∧ r = if ∀ n ∈ pre, n = 0 then 0 else 3
theorem orI0 : orI [] 0 := by simp [orI]
theorem orI1 {pre : List Int} {r n : Int} (h : orI pre r) (h0 : n ≠ 1) (h1 : n ≠ 0) : orI (pre ++ [n]) 3 := by
  refine ⟨by simpa [h.1] using Ne.symm h0, ?_⟩
  rw [if_neg (fun q => h1 (q n (by simp)))]
theorem orI2 {pre : List Int} {r n : Int} (h : orI pre r) (h1 : n = 0) : orI (pre ++ [n]) r := by
  subst h1
  refine ⟨by simpa using h.1, ?_⟩
  rw [h.2]
  simp only [all_snoc]
theorem orC_one {ns pre post : List Int} {n : Int} (e : ns = pre ++ n :: post) (h : n = 1) : 1 = orC ns := by
  subst h e
  simp [orC]
theorem orC_end {ns : List Int} {r : Int} (h : orI ns r) : r = orC ns := by
  rw [orC, if_neg h.1]; exact h.2
theorem or_ct (news : List (Addr × Obj)) (l : Addr) (vs : List Value) (nn : Nat) (ns : List Int) (hi : IntsAre vs ns) : Ct 1 75 [.ref l] ((l, listOf vs.toArray nn) :: news) (isInt ((l, listOf vs.toArray nn) :: news) (orC ns)) := by
  unfold Ct
  w_top off
  k_fill
  k_with_none
  k_with "pyIter ref" => k_state orI "result"
  k_with "state" => first | exact orI0 | exact orI1 (by assumption) (by assumption) (by assumption) | exact orI2 (by assumption) (by assumption)
  intro w mean mg mb dp un gd cn cs a ccd cl outer A₀ base h₀ L m s Q E B F X N T hk hdp hun hret
  refine wpAny_call ?_
  k_dflt cell_enter
  k_steps
  · refine hret _ _ _ _ (isInt.mk (orC_one (by assumption) (by assumption))) (by assumption) (kst_newsOf (by assumption) sub1)
  · refine hret _ _ _ _ (isInt.mk (orC_end (by assumption))) (by assumption) (by assumption)
def xorC (ns : List Int) : Int := if ∀ n ∈ ns, n ≤ 1 then (ns.count 1 : Int) % 2 else 3
def xorI (pre : List Int) (r : Int) : Prop := (∀ n ∈ pre, n ≤ 1) ∧ r = (pre.count 1 : Int) % 2
theorem xorI0 : xorI [] 0 := by simp [xorI]
theorem xorI1 {pre : List Int} {r n : Int} (h : xorI pre r) (h0 : 0 ≤ n) (h1 : n ≤ 1) : xorI (pre ++ [n]) (Builtin.bitXor r n) := by
  refine ⟨fun x hx => ?_, ?_⟩
  · rcases List.mem_append.mp hx with q | q
    · exact h.1 x q
    · rw [List.mem_singleton.mp q]; exact h1
  · have e := h.2
    have hr : r = 0 ∨ r = 1 := by omega
    have hn : n = 0 ∨ n = 1 := by omega
    rw [List.count_append, List.count_singleton]
    rcases hr with rfl | rfl <;> rcases hn with rfl | rfl
    · rw [show Builtin.bitXor 0 0 = 0 by decide +kernel]; simp; omega
    · rw [show Builtin.bitXor 0 1 = 1 by decide +kernel]; simp; omega
    · rw [show Builtin.bitXor 1 0 = 1 by decide +kernel]; simp; omega
    · rw [show Builtin.bitXor 1 1 = 0 by decide +kernel]; simp; omega
theorem xorC_no {ns pre post : List Int} {n : Int} (e : ns = pre ++ n :: post) (h : 1 < n) : 3 = xorC ns := by
  subst e
  rw [xorC, if_neg]
  intro q
  have := q n (by simp)
  omega
theorem xorC_end {ns : List Int} {r : Int} (h : xorI ns r) : r = xorC ns := by
  rw [xorC, if_pos h.1]; exact h.2
theorem xor_ct (news : List (Addr × Obj)) (l : Addr) (vs : List Value) (nn : Nat) (ns : List Int) (hi : IntsAre vs ns) (h0 : ∀ n ∈ ns, 0 ≤ n) : Ct 1 82 [.ref l] ((l, listOf vs.toArray nn) :: news) (isInt ((l, listOf vs.toArray nn) :: news) (xorC ns)) := by
  unfold Ct
  w_top off
  k_fill
  k_with_none
  k_with "pyIter ref" => k_state xorI "result"
  k_with "state" => first | exact xorI0 | exact xorI1 (by assumption) (h0 _ (by assumption)) (by omega)
  intro w mean mg mb dp un gd cn cs a ccd cl outer A₀ base h₀ L m s Q E B F X N T hk hdp hun hret
  refine wpAny_call ?_
  k_dflt cell_enter
  k_steps
  · refine hret _ _ _ _ (isInt.mk (xorC_no (by assumption) (by assumption))) (by assumption) (kst_newsOf (by assumption) sub1)
  · refine hret _ _ _ _ (isInt.mk (xorC_end (by assumption))) (by assumption) (by assumption)
end Mine
namespace Mine
local macro_rules | `(tactic| walk_at $s:str) => `(tactic| k_extra $s)
theorem Ct.use {d : Nat} {f : Addr} {vs : List Value} {news : List (Addr × Obj)} {post : Value → List (Addr × Obj) → Prop} {w : World} {mean : ExcName → Option Value} {mg mb : Str → Option Value} {dp un : Nat} {gd : Option (List Code)} {cn : Str} {cs : Scope} {a : Addr} {ccd : Value} {cl : List (Str × Addr)} {outer : List Env}
    {A₀ : Around} {base h₀ : Heap} {L : Addr} {m : Str → Option Value} {s : Shared} {Q E : Value → Shared → Prop}
    (B : Below A₀ base outer h₀) (F : Fr h₀ L s.heap m) (X : (hd.heap_39 w.params).In h₀) (N : News h₀ L s.heap news)
    (T : Top hd.view_39 (looseW hd.view_39 [Str.ofString "GateloomError"]) mean mg mb h₀) (hk : cs.kind = .function) (hdp : dp + d < recursionLimit) (hun : un + 100 * d < cLine) (C : Ct d f vs news post)
    (ret : ∀ v news' h' tk', post v news' → Fr h₀ L h' m → News h₀ L h' news' → Q v { s with heap := h', toks := tk' }) :
    wpAny (model PySem.Challenge.rw_nn0296_01.row.prog w) (ktrTop dp un gd cn cs L a ccd cl outer) (call (.ref f) vs) Q E s :=
  C w mean mg mb dp un gd cn cs a ccd cl outer A₀ base h₀ L m s Q E B F X N T hk hdp hun ret
theorem Ct.weak {d : Nat} {f : Addr} {vs : List Value} {news news₁ : List (Addr × Obj)} {post post₁ : Value → List (Addr × Obj) → Prop} (C : Ct d f vs news₁ post₁) (hs : ∀ p ∈ news₁, p ∈ news)
    (hp : ∀ v n₁, post₁ v n₁ → ∃ n, post v n ∧ ∀ p ∈ n, p ∈ n₁) : Ct d f vs news post := by
  intro w mean mg mb dp un gd cn cs a ccd cl outer A₀ base h₀ L m s Q E B F X N T hk hdp hun hret
  refine C w mean mg mb dp un gd cn cs a ccd cl outer A₀ base h₀ L m s Q E B F X (kst_newsOf N hs) T hk hdp hun fun v n₁ h' tk' p F' N' => ?_
  obtain ⟨n, q, hn⟩ := hp v n₁ p
  exact hret v n h' tk' q F' (kst_newsOf N' hn)
theorem Ct.memInt {d : Nat} {f : Addr} {vs : List Value} {news : List (Addr × Obj)} {q : Addr × Obj} {i : Int} (hq : q ∈ news) (C : Ct d f vs (q :: news) (isInt (q :: news) i)) : Ct d f vs news (isInt news i) :=
  C.weak (fun _ hp => (List.mem_cons.mp hp).elim (fun h => h ▸ hq) id) fun _ _ h => ⟨news, ⟨rfl, h.2⟩, h.1 ▸ fun _ hp => .tail _ hp⟩
theorem and_in {news : List (Addr × Obj)} {l : Addr} {vs : List Value} {nn : Nat} {ns : List Int} (hl : (l, listOf vs.toArray nn) ∈ news) (hi : IntsAre vs ns) : Ct 1 68 [.ref l] news (isInt news (andC ns)) := Ct.memInt hl (and_ct _ _ _ _ _ hi)
theorem or_in {news : List (Addr × Obj)} {l : Addr} {vs : List Value} {nn : Nat} {ns : List Int} (hl : (l, listOf vs.toArray nn) ∈ news) (hi : IntsAre vs ns) : Ct 1 75 [.ref l] news (isInt news (orC ns)) := Ct.memInt hl (or_ct _ _ _ _ _ hi)
theorem xor_in {news : List (Addr × Obj)} {l : Addr} {vs : List Value} {nn : Nat} {ns : List Int} (hl : (l, listOf vs.toArray nn) ∈ news) (hi : IntsAre vs ns) (h0 : ∀ n ∈ ns, 0 ≤ n) : Ct 1 82 [.ref l] news (isInt news (xorC ns)) := Ct.memInt hl (xor_ct _ _ _ _ _ hi h0)
theorem Ct.useInt {d : Nat} {f : Addr} {vs : List Value} {news : List (Addr × Obj)} {i : Int} {w : World} {mean : ExcName → Option Value} {mg mb : Str → Option Value} {dp un : Nat} {gd : Option (List Code)} {cn : Str} {cs : Scope} {a : Addr} {ccd : Value} {cl : List (Str × Addr)} {outer : List Env}
    {A₀ : Around} {base h₀ : Heap} {L : Addr} {m : Str → Option Value} {s : Shared} {Q E : Value → Shared → Prop}
    (B : Below A₀ base outer h₀) (F : Fr h₀ L s.heap m) (X : (hd.heap_39 w.params).In h₀) (N : News h₀ L s.heap news)
    (T : Top hd.view_39 (looseW hd.view_39 [Str.ofString "GateloomError"]) mean mg mb h₀) (hk : cs.kind = .function) (hdp : dp + d < recursionLimit) (hun : un + 100 * d < cLine) (C : Ct d f vs news (isInt news i))
    (ret : ∀ t h' tk', Fr h₀ L h' m → News h₀ L h' news → Q (.int i t) { s with heap := h', toks := tk' }) :
    wpAny (model PySem.Challenge.rw_nn0296_01.row.prog w) (ktrTop dp un gd cn cs L a ccd cl outer) (call (.ref f) vs) Q E s := by
  refine C w mean mg mb dp un gd cn cs a ccd cl outer A₀ base h₀ L m s Q E B F X N T hk hdp hun ?_
  rintro v news' h' tk' ⟨rfl, t, rfl⟩ F' N'
  exact ret t h' tk' F' N'
def gateV (kind : String) (ns : List Int) : Int :=
  if kind = "and" then andC ns else if kind = "nand" then opp (andC ns) else if kind = "or" then orC ns else if kind = "nor" then opp (orC ns)
  else if kind = "xor" then xorC ns else if kind = "xnor" then opp (xorC ns) else if kind = "buf" then opp (opp (ns.headD 0)) else opp (ns.headD 0)
def kindL (kind : String) : Prop := kind = "and" ∨ kind = "nand" ∨ kind = "or" ∨ kind = "nor" ∨ kind = "xor" ∨ kind = "xnor"
def kind1 (kind : String) : Prop := kind = "buf" ∨ kind = "not"
theorem gate_l (kind : String) (hk8 : kindL kind) (news : List (Addr × Obj)) (l : Addr) (vs : List Value) (nn : Nat) (ns : List Int) (t : Tok) (hl : (l, listOf vs.toArray nn) ∈ news) (hi : IntsAre vs ns) (h0 : ∀ n ∈ ns, 0 ≤ n) :
    Ct 2 89 [.str (Str.ofString kind) t, .ref l] news (isInt news (gateV kind ns)) := by
  unfold Ct
  w_top off
  k_fill
  k_with_none
  k_with "call ref" => (k_here; (with_reducible show wpAny _ _ (call (Value.ref 68) _) _ _ _); k_dflt (refine Ct.useInt (by k_asm) (by k_asm) (by k_asm) (by k_asm) (by k_asm) (by first | exact rfl | assumption) (by ktr_room) (by ktr_units) (and_in (by first | assumption | k_mem) (by assumption)) ?_); intro t9 h9 tk9 F9 N9; (try dsimp only); (try k_fold))
  k_with "call ref" => (k_here; (with_reducible show wpAny _ _ (call (Value.ref 75) _) _ _ _); k_dflt (refine Ct.useInt (by k_asm) (by k_asm) (by k_asm) (by k_asm) (by k_asm) (by first | exact rfl | assumption) (by ktr_room) (by ktr_units) (or_in (by first | assumption | k_mem) (by assumption)) ?_); intro t9 h9 tk9 F9 N9; (try dsimp only); (try k_fold))
  k_with "call ref" => (k_here; (with_reducible show wpAny _ _ (call (Value.ref 82) _) _ _ _); k_dflt (refine Ct.useInt (by k_asm) (by k_asm) (by k_asm) (by k_asm) (by k_asm) (by first | exact rfl | assumption) (by ktr_room) (by ktr_units) (xor_in (by first | assumption | k_mem) (by assumption) (by assumption)) ?_); intro t9 h9 tk9 F9 N9; (try dsimp only); (try k_fold))
  k_with "call ref" => (k_here; (with_reducible show wpAny _ _ (call (Value.ref 61) _) _ _ _); k_dflt (refine Ct.useInt (by k_asm) (by k_asm) (by k_asm) (by k_asm) (by k_asm) (by first | exact rfl | assumption) (by ktr_room) (by ktr_units) (opp_ct _ _ _) ?_); intro t9 h9 tk9 F9 N9; (try dsimp only); (try k_fold))
  intro w mean mg mb dp un gd cn cs a ccd cl outer A₀ base h₀ L m s Q E B F X N T hk hdp hun hret
  rcases hk8 with rfl | rfl | rfl | rfl | rfl | rfl
  all_goals (
    refine wpAny_call ?_
    k_dflt cell_enter
    k_steps
    all_goals exact hret _ _ _ _ (isInt.mk rfl) (by assumption) (by assumption))
theorem gate_1 (kind : String) (hk8 : kind1 kind) (news : List (Addr × Obj)) (l : Addr) (c : Int) (tc : Tok) (vs : List Value) (nn : Nat) (t : Tok) (hl : (l, listOf (Value.int c tc :: vs).toArray nn) ∈ news) :
    Ct 2 89 [.str (Str.ofString kind) t, .ref l] news (isInt news (gateV kind [c])) := by
  unfold Ct
  w_top off
  k_fill
  k_with "subscriptTail" => (k_here; (with_reducible show wpAny _ _ (subscriptTail _ _ (Value.ref _) (Value.int 0 _)) _ _ _); (with_unfolding_all refine item_litK (by k_dflt (exact News.isList (by assumption) (by assumption))) (by k_dflt (decide)) (by k_dflt (decide)) (by k_dflt (rfl)) ?_ (by k_dflt (with_unfolding_all rfl))); k_whole)
  intro w mean mg mb dp un gd cn cs a ccd cl outer A₀ base h₀ L m s Q E B F X N T hk hdp hun hret
  rcases hk8 with rfl | rfl
  all_goals (
    refine wpAny_call ?_
    k_dflt cell_enter
    k_steps
    all_goals exact hret _ _ _ _ (isInt.mk rfl) (by assumption) (by assumption))
end Mine
namespace Mine
local macro_rules | `(tactic| walk_at $s:str) => `(tactic| k_extra $s)
abbrev tupOf (vs : List Value) : Obj := { cls := .type "tuple", data := .seq vs.toArray }
/-- a new pair of ints comes back on top of the ledger -/
def isPair (news : List (Addr × Obj)) (p : Int × Int) : Value → List (Addr × Obj) → Prop :=
  fun v news' => ∃ a t u, v = .ref a ∧ news' = (a, tupOf [.int p.1 t, .int p.2 u]) :: news ∧ ∀ q ∈ news, q.1 < a
theorem isPair.mk {news : List (Addr × Obj)} {p : Int × Int} {a : Addr} {i j : Int} {t u : Tok} (h : (i, j) = p) (hl : ∀ q ∈ news, q.1 < a) : isPair news p (.ref a) ((a, tupOf [.int i t, .int j u]) :: news) := by
  subst h; exact ⟨a, t, u, rfl, rfl, hl⟩
theorem isPair.mk2 {news : List (Addr × Obj)} {p : Int × Int} {a : Addr} {t u : Tok} (hl : ∀ q ∈ news, q.1 < a) : isPair news p (.ref a) ((a, tupOf [.int p.1 t, .int p.2 u]) :: news) := ⟨a, t, u, rfl, rfl, hl⟩
theorem Ct.usePair {d : Nat} {f : Addr} {vs : List Value} {news : List (Addr × Obj)} {p : Int × Int} {w : World} {mean : ExcName → Option Value} {mg mb : Str → Option Value} {dp un : Nat} {gd : Option (List Code)} {cn : Str} {cs : Scope} {a : Addr} {ccd : Value} {cl : List (Str × Addr)} {outer : List Env}
    {A₀ : Around} {base h₀ : Heap} {L : Addr} {m : Str → Option Value} {s : Shared} {Q E : Value → Shared → Prop}
    (B : Below A₀ base outer h₀) (F : Fr h₀ L s.heap m) (X : (hd.heap_39 w.params).In h₀) (N : News h₀ L s.heap news)
    (T : Top hd.view_39 (looseW hd.view_39 [Str.ofString "GateloomError"]) mean mg mb h₀) (hk : cs.kind = .function) (hdp : dp + d < recursionLimit) (hun : un + 100 * d < cLine) (C : Ct d f vs news (isPair news p))
    (ret : ∀ b t u h' tk', (∀ q ∈ news, q.1 < b) → Fr h₀ L h' m → News h₀ L h' ((b, tupOf [.int p.1 t, .int p.2 u]) :: news) → Q (.ref b) { s with heap := h', toks := tk' }) :
    wpAny (model PySem.Challenge.rw_nn0296_01.row.prog w) (ktrTop dp un gd cn cs L a ccd cl outer) (call (.ref f) vs) Q E s := by
  refine C w mean mg mb dp un gd cn cs a ccd cl outer A₀ base h₀ L m s Q E B F X N T hk hdp hun ?_
  rintro v news' h' tk' ⟨b, t, u, rfl, rfl, hb⟩ F' N'
  exact ret b t u h' tk' hb F' N'
def drv (v s0 s1 : Int) : Int × Int := if v = 0 then (-s0, -s0) else if v = 1 then (s1, s1) else if v = 2 then (0, 0) else (-s0, s1)
theorem drive_ct (news : List (Addr × Obj)) (v s0 s1 : Int) (tv t0 t1 : Tok) : Ct 1 54 [.int v tv, .int s0 t0, .int s1 t1] news (isPair news (drv v s0 s1)) := by
  unfold Ct
  w_top off
  k_fill
  k_with_none
  intro w mean mg mb dp un gd cn cs a ccd cl outer A₀ base h₀ L m s Q E B F X N T hk hdp hun hret
  refine wpAny_call ?_
  k_dflt cell_enter
  k_steps
  all_goals (refine hret _ _ _ _ (isPair.mk ?_ (by assumption)) (by assumption) (by assumption); simp [drv, *])
def passed (kind : String) (d : Int) : Int := if kind = "nmos" ∨ kind = "pmos" then d else if kind = "notif0" ∨ kind = "notif1" then opp d else opp (opp d)
def opening (kind : String) : Int := if kind = "bufif0" ∨ kind = "notif0" ∨ kind = "pmos" then 0 else 1
def triV (kind : String) (d c s0 s1 : Int) : Int × Int :=
  if c = opening kind then drv (passed kind d) s0 s1 else if c = 0 ∨ c = 1 ∨ passed kind d = 2 then (0, 0)
  else if passed kind d = 0 then (-s0, 0) else if passed kind d = 1 then (0, s1) else (-s0, s1)
def kind3 (kind : String) : Prop := kind = "bufif0" ∨ kind = "bufif1" ∨ kind = "notif0" ∨ kind = "notif1" ∨ kind = "nmos" ∨ kind = "pmos"
def isBool (news : List (Addr × Obj)) (i : Bool) : Value → List (Addr × Obj) → Prop := fun v news' => news' = news ∧ v = .bool i
theorem isBool.mk {news : List (Addr × Obj)} {i j : Bool} (h : j = i) : isBool news i (.bool j) news := ⟨rfl, by rw [h]⟩
theorem Ct.useBool {d : Nat} {f : Addr} {vs : List Value} {news : List (Addr × Obj)} {i : Bool} {w : World} {mean : ExcName → Option Value} {mg mb : Str → Option Value} {dp un : Nat} {gd : Option (List Code)} {cn : Str} {cs : Scope} {a : Addr} {ccd : Value} {cl : List (Str × Addr)} {outer : List Env}
    {A₀ : Around} {base h₀ : Heap} {L : Addr} {m : Str → Option Value} {s : Shared} {Q E : Value → Shared → Prop}
    (B : Below A₀ base outer h₀) (F : Fr h₀ L s.heap m) (X : (hd.heap_39 w.params).In h₀) (N : News h₀ L s.heap news)
    (T : Top hd.view_39 (looseW hd.view_39 [Str.ofString "GateloomError"]) mean mg mb h₀) (hk : cs.kind = .function) (hdp : dp + d < recursionLimit) (hun : un + 100 * d < cLine) (C : Ct d f vs news (isBool news i))
    (ret : ∀ h' tk', Fr h₀ L h' m → News h₀ L h' news → Q (.bool i) { s with heap := h', toks := tk' }) :
    wpAny (model PySem.Challenge.rw_nn0296_01.row.prog w) (ktrTop dp un gd cn cs L a ccd cl outer) (call (.ref f) vs) Q E s := by
  refine C w mean mg mb dp un gd cn cs a ccd cl outer A₀ base h₀ L m s Q E B F X N T hk hdp hun ?_
  rintro v news' h' tk' ⟨rfl, rfl⟩ F' N'
  exact ret h' tk' F' N'
def inB (l : List String) (kind : String) : Bool := (l.map Str.ofString).any (· == Str.ofString kind)
section
variable {kind : String} {d : Int}
theorem passed1 (h3 : kind3 kind) (h : inB ["nmos", "pmos"] kind = true) : d = passed kind d := by
  rcases h3 with rfl | rfl | rfl | rfl | rfl | rfl <;> first | (exact absurd h (by decide +kernel)) | simp [passed]
theorem passed2 (h3 : kind3 kind) (h : inB ["nmos", "pmos"] kind = false) (h' : inB ["notif0", "notif1"] kind = true) : opp d = passed kind d := by
  rcases h3 with rfl | rfl | rfl | rfl | rfl | rfl <;> first | (exact absurd h (by decide +kernel)) | (exact absurd h' (by decide +kernel)) | simp [passed]
theorem passed3 (h3 : kind3 kind) (h : inB ["nmos", "pmos"] kind = false) (h' : inB ["notif0", "notif1"] kind = false) : opp (opp d) = passed kind d := by
  rcases h3 with rfl | rfl | rfl | rfl | rfl | rfl <;> first | (exact absurd h (by decide +kernel)) | (exact absurd h' (by decide +kernel)) | simp [passed]
theorem opening1 (h3 : kind3 kind) (h : inB ["bufif0", "notif0", "pmos"] kind = true) : 0 = opening kind := by
  rcases h3 with rfl | rfl | rfl | rfl | rfl | rfl <;> first | (exact absurd h (by decide +kernel)) | simp [opening]
theorem opening2 (h3 : kind3 kind) (h : inB ["bufif0", "notif0", "pmos"] kind = false) : 1 = opening kind := by
  rcases h3 with rfl | rfl | rfl | rfl | rfl | rfl <;> first | (exact absurd h (by decide +kernel)) | simp [opening]
end
theorem passed_ct (kind : String) (h3 : kind3 kind) (news : List (Addr × Obj)) (d : Int) (tk td : Tok) : Ct 2 110 [.str (Str.ofString kind) tk, .int d td] news (isInt news (passed kind d)) := by
  unfold Ct
  w_top off
  k_fill
  k_with "call ref" => (k_here; (with_reducible show wpAny _ _ (call (Value.ref 61) _) _ _ _); k_dflt (refine Ct.useInt (by k_asm) (by k_asm) (by k_asm) (by k_asm) (by k_asm) (by first | exact rfl | assumption) (by ktr_room) (by ktr_units) (opp_ct _ _ _) ?_); intro t9 h9 tk9 F9 N9; (try dsimp only); (try k_fold))
  k_with "call ref" => (k_here; (with_reducible show wpAny _ _ (call (Value.ref 54) _) _ _ _); k_dflt (refine Ct.usePair (by k_asm) (by k_asm) (by k_asm) (by k_asm) (by k_asm) (by first | exact rfl | assumption) (by ktr_room) (by ktr_units) (drive_ct _ _ _ _ _ _ _) ?_); intro b9 t9 u9 h9 tk9 l9 F9 N9; (try dsimp only); (try k_fold))
  intro w mean mg mb dp un gd cn cs a ccd cl outer A₀ base h₀ L m s Q E B F X N T hk hdp hun hret
  refine wpAny_call ?_
  k_dflt cell_enter
  k_steps
  all_goals (
    refine hret _ _ _ _ (isInt.mk ?_) (by assumption) (kst_newsOf (by assumption) (by intro p hp; first | exact hp | exact .tail _ hp | exact .tail _ (.tail _ hp)))
    first
    | exact passed1 h3 (by assumption)
    | exact passed2 h3 (by assumption) (by assumption)
    | exact passed3 h3 (by assumption) (by assumption))
theorem opening_ct (kind : String) (h3 : kind3 kind) (news : List (Addr × Obj)) (tk : Tok) : Ct 1 103 [.str (Str.ofString kind) tk] news (isInt news (opening kind)) := by
  unfold Ct
  w_top off
  k_fill
  intro w mean mg mb dp un gd cn cs a ccd cl outer A₀ base h₀ L m s Q E B F X N T hk hdp hun hret
  refine wpAny_call ?_
  k_dflt cell_enter
  k_steps
  all_goals (
    refine hret _ _ _ _ (isInt.mk ?_) (by assumption) (kst_newsOf (by assumption) (by intro p hp; first | exact hp | exact .tail _ hp | exact .tail _ (.tail _ hp)))
    first
    | exact opening1 h3 (by assumption)
    | exact opening2 h3 (by assumption))
theorem tri_ct (kind : String) (h3 : kind3 kind) (news : List (Addr × Obj)) (d c s0 s1 : Int) (tk td tc t0 t1 : Tok) : Ct 3 117 [.str (Str.ofString kind) tk, .int d td, .int c tc, .int s0 t0, .int s1 t1] news (isPair news (triV kind d c s0 s1)) := by
  unfold Ct
  w_top off
  k_fill
  k_with "call ref" => (k_here; (with_reducible show wpAny _ _ (call (Value.ref 110) _) _ _ _); k_dflt (refine Ct.useInt (by k_asm) (by k_asm) (by k_asm) (by k_asm) (by k_asm) (by first | exact rfl | assumption) (by ktr_room) (by ktr_units) (passed_ct _ (by assumption) _ _ _ _) ?_); intro t9 h9 tk9 F9 N9; (try dsimp only); (try k_fold))
  k_with "call ref" => (k_here; (with_reducible show wpAny _ _ (call (Value.ref 103) _) _ _ _); k_dflt (refine Ct.useInt (by k_asm) (by k_asm) (by k_asm) (by k_asm) (by k_asm) (by first | exact rfl | assumption) (by ktr_room) (by ktr_units) (opening_ct _ (by assumption) _ _) ?_); intro t9 h9 tk9 F9 N9; (try dsimp only); (try k_fold))
  intro w mean mg mb dp un gd cn cs a ccd cl outer A₀ base h₀ L m s Q E B F X N T hk hdp hun hret
  refine wpAny_call ?_
  k_dflt cell_enter
  k_steps
  all_goals (refine hret _ _ _ _ (isPair.mk ?_ (by assumption)) (by assumption) (by assumption); simp only [triV]; (repeat' split) <;> first | rfl | omega)
theorem is3_ct (kind : String) (news : List (Addr × Obj)) (tk : Tok) : Ct 1 96 [.str (Str.ofString kind) tk] news (isBool news (inB ["bufif0", "bufif1", "notif0", "notif1", "nmos", "pmos"] kind)) := by
  unfold Ct
  w_top off
  k_fill
  intro w mean mg mb dp un gd cn cs a ccd cl outer A₀ base h₀ L m s Q E B F X N T hk hdp hun hret
  refine wpAny_call ?_
  k_dflt cell_enter
  k_steps
  all_goals exact hret _ _ _ _ (isBool.mk (by rfl)) (by assumption) (kst_newsOf (by assumption) (by intro p hp; first | exact hp | exact .tail _ hp | exact .tail _ (.tail _ hp)))
theorem is3_yes (kind : String) (h3 : kind3 kind) (news : List (Addr × Obj)) (tk : Tok) : Ct 1 96 [.str (Str.ofString kind) tk] news (isBool news true) := by
  have h := is3_ct kind news tk
  rwa [show inB ["bufif0", "bufif1", "notif0", "notif1", "nmos", "pmos"] kind = true by rcases h3 with rfl | rfl | rfl | rfl | rfl | rfl <;> decide +kernel] at h
theorem is3_no (kind : String) (h3 : kindL kind ∨ kind1 kind) (news : List (Addr × Obj)) (tk : Tok) : Ct 1 96 [.str (Str.ofString kind) tk] news (isBool news false) := by
  have h := is3_ct kind news tk
  rwa [show inB ["bufif0", "bufif1", "notif0", "notif1", "nmos", "pmos"] kind = false by rcases h3 with (rfl | rfl | rfl | rfl | rfl | rfl) | rfl | rfl <;> decide +kernel] at h
theorem pair_l (kind : String) (hz : kindL kind) (news : List (Addr × Obj)) (l : Addr) (vs : List Value) (nn : Nat) (ns : List Int) (tk t0 t1 : Tok) (s0 s1 : Int) (hl : (l, listOf vs.toArray nn) ∈ news) (hi : IntsAre vs ns) (h0 : ∀ n ∈ ns, 0 ≤ n) :
    Ct 4 124 [.str (Str.ofString kind) tk, .ref l, .int s0 t0, .int s1 t1] news (isPair news (drv (gateV kind ns) s0 s1)) := by
  unfold Ct
  w_top off
  k_fill
  k_with "call ref" => (k_here; (with_reducible show wpAny _ _ (call (Value.ref 96) _) _ _ _); k_dflt (refine Ct.useBool (by k_asm) (by k_asm) (by k_asm) (by k_asm) (by k_asm) (by first | exact rfl | assumption) (by ktr_room) (by ktr_units) (is3_yes _ (by assumption) _ _) ?_); intro h9 tk9 F9 N9; (try dsimp only); (try k_fold))
  k_with "call ref" => (k_here; (with_reducible show wpAny _ _ (call (Value.ref 96) _) _ _ _); k_dflt (refine Ct.useBool (by k_asm) (by k_asm) (by k_asm) (by k_asm) (by k_asm) (by first | exact rfl | assumption) (by ktr_room) (by ktr_units) (is3_no _ (by first | exact Or.inl (by assumption) | exact Or.inr (by assumption)) _ _) ?_); intro h9 tk9 F9 N9; (try dsimp only); (try k_fold))
  k_with "call ref" => (k_here; (with_reducible show wpAny _ _ (call (Value.ref 89) _) _ _ _); k_dflt (refine Ct.useInt (by k_asm) (by k_asm) (by k_asm) (by k_asm) (by k_asm) (by first | exact rfl | assumption) (by ktr_room) (by ktr_units) (gate_l _ (by assumption) _ _ _ _ _ _ (by first | assumption | k_mem) (by assumption) (by assumption)) ?_); intro t9 h9 tk9 F9 N9; (try dsimp only); (try k_fold))
  k_with "call ref" => (k_here; (with_reducible show wpAny _ _ (call (Value.ref 89) _) _ _ _); k_dflt (refine Ct.useInt (by k_asm) (by k_asm) (by k_asm) (by k_asm) (by k_asm) (by first | exact rfl | assumption) (by ktr_room) (by ktr_units) (gate_1 _ (by assumption) _ _ _ _ _ _ _ (by first | assumption | k_mem)) ?_); intro t9 h9 tk9 F9 N9; (try dsimp only); (try k_fold))
  k_with "call ref" => (k_here; (with_reducible show wpAny _ _ (call (Value.ref 117) _) _ _ _); k_dflt (refine Ct.usePair (by k_asm) (by k_asm) (by k_asm) (by k_asm) (by k_asm) (by first | exact rfl | assumption) (by ktr_room) (by ktr_units) (tri_ct _ (by assumption) _ _ _ _ _ _ _ _ _ _) ?_); intro b9 t9 u9 h9 tk9 l9 F9 N9; (try dsimp only); (try k_fold))
  k_with "subscriptTail" => (k_here; (with_reducible show wpAny _ _ (subscriptTail _ _ (Value.ref _) (Value.int _ _)) _ _ _); (with_unfolding_all refine item_litK (by k_dflt (exact News.isList (by assumption) (by assumption))) (by k_dflt (decide)) (by k_dflt (decide)) (by k_dflt (rfl)) ?_ (by k_dflt (with_unfolding_all rfl))); k_whole)
  intro w mean mg mb dp un gd cn cs a ccd cl outer A₀ base h₀ L m s Q E B F X N T hk hdp hun hret
  have hz' : kindL kind := hz
  rcases hz with rfl | rfl | rfl | rfl | rfl | rfl
  all_goals (
    refine wpAny_call ?_
    k_dflt cell_enter
    k_steps
    all_goals exact hret _ _ _ _ (isPair.mk2 (by assumption)) (by assumption) (by assumption))
theorem pair_1 (kind : String) (hz : kind1 kind) (news : List (Addr × Obj)) (l : Addr) (c : Int) (tc : Tok) (vs : List Value) (nn : Nat) (tk t0 t1 : Tok) (s0 s1 : Int) (hl : (l, listOf (Value.int c tc :: vs).toArray nn) ∈ news) :
    Ct 4 124 [.str (Str.ofString kind) tk, .ref l, .int s0 t0, .int s1 t1] news (isPair news (drv (gateV kind [c]) s0 s1)) := by
  unfold Ct
  w_top off
  k_fill
  intro w mean mg mb dp un gd cn cs a ccd cl outer A₀ base h₀ L m s Q E B F X N T hk hdp hun hret
  have hz' : kind1 kind := hz
  rcases hz with rfl | rfl
  all_goals (
    refine wpAny_call ?_
    k_dflt cell_enter
    k_steps
    all_goals exact hret _ _ _ _ (isPair.mk2 (by assumption)) (by assumption) (by assumption))
theorem pair_3 (kind : String) (hz : kind3 kind) (news : List (Addr × Obj)) (l : Addr) (d c : Int) (td tc : Tok) (nn : Nat) (tk t0 t1 : Tok) (s0 s1 : Int) (hl : (l, listOf [Value.int d td, Value.int c tc].toArray nn) ∈ news) :
    Ct 4 124 [.str (Str.ofString kind) tk, .ref l, .int s0 t0, .int s1 t1] news (isPair news (triV kind d c s0 s1)) := by
  unfold Ct
  w_top off
  k_fill
  intro w mean mg mb dp un gd cn cs a ccd cl outer A₀ base h₀ L m s Q E B F X N T hk hdp hun hret
  have hz' : kind3 kind := hz
  rcases hz with rfl | rfl | rfl | rfl | rfl | rfl
  all_goals (
    refine wpAny_call ?_
    k_dflt cell_enter
    k_steps
    all_goals exact hret _ _ _ _ (isPair.mk2 (by assumption)) (by assumption) (by assumption))
end Mine
namespace Mine
local macro_rules | `(tactic| walk_at $s:str) => `(tactic| k_extra $s)
/-- the last int of the list at l comes back, the list is shorter by it (0, where it is empty) -/
def isPop (news : List (Addr × Obj)) (l : Addr) (ns : List Int) : Value → List (Addr × Obj) → Prop :=
  fun v news' => ∃ t vs nn, v = .int (ns.getLastD 0) t ∧ news' = (l, listOf vs.toArray nn) :: news ∧ IntsAre vs ns.dropLast
theorem pos_of {vs : List Value} {ns : List Int} (hi : IntsAre vs ns) (h : decide (ns = []) = false) : 0 < vs.length := by
  cases hi with
  | nil => simp at h
  | cons n t r => simp
local macro_rules | `(tactic| k_all) => `(tactic| assumption)
theorem next_ct (news : List (Addr × Obj)) (l : Addr) (vs : List Value) (nn : Nat) (ns : List Int) (hi : IntsAre vs ns) (hne : ∀ q ∈ news, q.1 ≠ l) (hsz : ns.length ≤ 200) : Ct 1 138 [.ref l] ((l, listOf vs.toArray nn) :: news) (isPop news l ns) := by
  unfold Ct
  w_top off
  k_fill
  k_with_none
  k_with "call builtin:list.pop" => (k_here; (with_reducible show wpAny _ _ (call (Value.builtin _) [Value.ref _]) _ _ _); k_dflt (refine' kpa_pop ?F ?N ?U ?i ?l ?z ?_); (case F => k_asm); (case N => k_asm); (case U => k_upd); (case i => assumption); (case l => exact pos_of (by assumption) (by assumption)); (case z => (rw [PySem.sizeLine_eq, IntsAre.length (by assumption)]; omega)); intro h' t' F' N' hI'; (try dsimp only [List.nil_append, List.cons_append] at N'))
  intro w mean mg mb dp un gd cn cs a ccd cl outer A₀ base h₀ L m s Q E B F X N T hk hdp hun hret
  refine wpAny_call ?_
  k_dflt cell_enter
  k_steps
  · have e : ns = [] := by simpa using (by assumption : decide (ns = []) = true)
    subst e
    cases hi
    exact hret _ _ _ _ ⟨_, [], _, rfl, rfl, .nil⟩ (by assumption) (kst_newsOf (by assumption) (by intro p hp; exact .tail _ hp))
  · exact hret _ _ _ _ ⟨_, _, _, rfl, rfl, by assumption⟩ (by assumption) (kst_newsOf (by assumption) (by intro p hp; exact .tail _ hp))
theorem next_in {led : List (Addr × Obj)} {g : Obj → List (Addr × Obj)} {l : Addr} {vs : List Value} {nn : Nat} {ns : List Int} (U : UpdF l (listOf vs.toArray nn) led g) (hi : IntsAre vs ns) (hsz : ns.length ≤ 200) :
    Ct 1 138 [.ref l] led (fun v led' => ∃ t us mm, v = .int (ns.getLastD 0) t ∧ led' = g (listOf us.toArray mm) ∧ IntsAre us ns.dropLast) := by
  obtain ⟨pre, post, rfl, hg, h1, h2⟩ := U.split
  refine Ct.weak (next_ct (pre ++ post) l vs nn ns hi (fun q hq => (List.mem_append.mp hq).elim (h1 q) (h2 q)) hsz) ?_ ?_
  · intro p hp
    rcases List.mem_cons.mp hp with rfl | hp
    · simp
    · rcases List.mem_append.mp hp with h | h <;> simp [h]
  · rintro v n₁ ⟨t, us, mm, rfl, rfl, hu⟩
    refine ⟨_, ⟨t, us, mm, rfl, rfl, hu⟩, ?_⟩
    rw [hg]
    intro p hp
    rcases List.mem_append.mp hp with h | h
    · simp [h]
    · rcases List.mem_cons.mp h with rfl | h
      · simp
      · simp [h]
theorem Ct.usePop {d : Nat} {f : Addr} {vs : List Value} {led : List (Addr × Obj)} {g : Obj → List (Addr × Obj)} {ns : List Int} {w : World} {mean : ExcName → Option Value} {mg mb : Str → Option Value} {dp un : Nat} {gd : Option (List Code)} {cn : Str} {cs : Scope} {a : Addr} {ccd : Value} {cl : List (Str × Addr)} {outer : List Env}
    {A₀ : Around} {base h₀ : Heap} {L : Addr} {m : Str → Option Value} {s : Shared} {Q E : Value → Shared → Prop}
    (B : Below A₀ base outer h₀) (F : Fr h₀ L s.heap m) (X : (hd.heap_39 w.params).In h₀) (N : News h₀ L s.heap led)
    (T : Top hd.view_39 (looseW hd.view_39 [Str.ofString "GateloomError"]) mean mg mb h₀) (hk : cs.kind = .function) (hdp : dp + d < recursionLimit) (hun : un + 100 * d < cLine) (C : Ct d f vs led (fun v led' => ∃ t us mm, v = .int (ns.getLastD 0) t ∧ led' = g (listOf us.toArray mm) ∧ IntsAre us ns.dropLast))
    (ret : ∀ t us nn h' tk', IntsAre us ns.dropLast → Fr h₀ L h' m → News h₀ L h' (g (listOf us.toArray nn)) → Q (.int (ns.getLastD 0) t) { s with heap := h', toks := tk' }) :
    wpAny (model PySem.Challenge.rw_nn0296_01.row.prog w) (ktrTop dp un gd cn cs L a ccd cl outer) (call (.ref f) vs) Q E s := by
  refine C w mean mg mb dp un gd cn cs a ccd cl outer A₀ base h₀ L m s Q E B F X N T hk hdp hun ?_
  rintro v news' h' tk' ⟨t, us, nn, rfl, rfl, hi⟩ F' N'
  exact ret t us nn h' tk' hi F' N'
theorem fmod4 (n : Int) : 0 ≤ n.fmod 4 ∧ n.fmod 4 < 4 := by
  rw [Int.fmod_eq_emod_of_nonneg n (by decide)]; omega
theorem news_skip {h₀ h : Heap} {L : Addr} {a b c : Addr × Obj} (N : News h₀ L h [a, b, c]) : News h₀ L h [a, c] :=
  kst_newsOf N fun p hp => by
    rcases List.mem_cons.mp hp with rfl | hp
    · exact .head _
    · exact .tail _ (.tail _ hp)
/-- a new list of `wide` codes comes back, one int of the row is spent -/
def isBits (l : Addr) (ns : List Int) (wide : Int) : Value → List (Addr × Obj) → Prop :=
  fun v news' => ∃ b us mm bs vs nn, v = .ref b ∧ news' = [(b, listOf us.toArray mm), (l, listOf vs.toArray nn)] ∧ IntsAre us bs ∧ (bs.length : Int) = wide ∧ (∀ x ∈ bs, 0 ≤ x ∧ x < 4) ∧ IntsAre vs ns.dropLast ∧ l < b
theorem isBits.mk {l b : Addr} {ns ms : List Int} {wide : Int} {us vs : List Value} {mm nn : Nat} (hi : IntsAre us ms) (hm : ms.length = 5) (hb : ∀ x ∈ ms, 0 ≤ x ∧ x < 4) (h1 : 1 ≤ wide) (h5 : wide ≤ 5) (hr : IntsAre vs ns.dropLast) (hl : l < b) :
    isBits l ns wide (.ref b) [(b, listOf (slicePick us.toArray none (some wide) none) mm), (l, listOf vs.toArray nn)] :=
  ⟨b, (slicePick us.toArray none (some wide) none).toList, mm, ms.take wide.toNat, vs, nn, rfl, rfl, kmk_upto hi (by omega), by rw [List.length_take]; omega, fun x hx => hb x (List.mem_of_mem_take hx), hr, hl⟩
theorem lt_sz {h₀ h : Heap} {L l : Addr} {a : Addr × Obj} {o : Obj} (N : News h₀ L h [a, (l, o)]) : l < h.objs.size + 1 :=
  Nat.lt_succ_of_lt (Heap.lt_size (N (l, o) (.tail _ (.head _))).1)
theorem wide5 {wide : Int} (h1 : 1 ≤ wide) (h5 : wide ≤ 5) : (wide + 4).fdiv 5 = 1 := by
  rw [Int.fdiv_eq_ediv_of_nonneg _ (by decide)]; omega
theorem bits_ct (l : Addr) (vs : List Value) (nn : Nat) (ns : List Int) (wide : Int) (tw : Tok) (hi : IntsAre vs ns) (hsz : ns.length ≤ 200) (hw : 1 ≤ wide) (hw5 : wide ≤ 5) :
    Ct 2 145 [.ref l, .int wide tw] [(l, listOf vs.toArray nn)] (isBits l ns wide) := by
  unfold Ct
  w_top off
  k_fill
  k_with "call ref" => (k_here; (with_reducible show wpAny _ _ (call (Value.ref 138) _) _ _ _); k_dflt (refine Ct.usePop (by k_asm) (by k_asm) (by k_asm) (by k_asm) (by k_asm) (by first | exact rfl | assumption) (by ktr_room) (by ktr_units) (next_in (by k_updF) (by assumption) (by first | assumption | omega)) ?_); intro t9 us9 nn9 h9 tk9 hi9 F9 N9; (try dsimp only at N9); (try dsimp only); (try k_fold))
  k_with "pyIter ref" => ((with_reducible show wpAny _ _ (pyIter (Value.ref _)) (fun it s₂ => LoopAtV _ _ _ _ _ _ _ _ _ it s₂) _ _); l_hasStore; (rename IsRange _ _ _ _ _ _ _ _ => rgX); (try rw [wide5 (by assumption) (by assumption)] at rgX); k_rangeUnr)
  intro w mean mg mb dp un gd cn cs a ccd cl outer A₀ base h₀ L m s Q E B F X N T hk hdp hun hret
  have kMark := kstMark
  refine wpAny_call ?_
  k_dflt cell_enter
  k_steps
  (rename News _ _ _ _ => kN9)
  simp only [List.push_toArray, List.nil_append, List.cons_append] at kN9
  refine hret _ _ _ _ (isBits.mk (.cons _ _ (.cons _ _ (.cons _ _ (.cons _ _ (.cons _ _ .nil))))) rfl ?_ hw hw5 (by assumption) ?_) (by assumption) (news_skip kN9)
  · repeat (first | exact List.forall_mem_nil _ | refine List.forall_mem_cons.mpr ⟨fmod4 _, ?_⟩)
  · exact lt_sz (by assumption)
end Mine
namespace Mine
local macro_rules | `(tactic| walk_at $s:str) => `(tactic| k_extra $s)
theorem news_ints {h₀ h : Heap} {L l : Addr} {a : Addr × Obj} {us : List Value} {ms : List Int} {n : Int} {t : Tok} {k : Nat} {rest : List (Addr × Obj)} (uN : News h₀ L h (a :: (l, listOf (us ++ [Value.int n t]).toArray k) :: rest)) (hi : IntsAre us ms) :
    IntsAre (us ++ [.int n t]) (ms ++ [n]) := IntsAre.append hi (.cons _ _ .nil)
theorem news_hd {h₀ h : Heap} {L : Addr} {q : Addr × Obj} {r : List (Addr × Obj)} (N : News h₀ L h (q :: r)) : News h₀ L h [q] :=
  kst_newsOf N fun p hp => by rw [List.mem_singleton.mp hp]; exact .head _
theorem row_ct (w : World) (mean : ExcName → Option Value) (mg mb : Str → Option Value) (dp un : Nat) (gd : Option (List Code)) (cn : Str) (cs : Scope) (a : Addr) (ccd : Value) (cl : List (Str × Addr)) (outer : List Env)
    (A₀ : Around) (base h₀ : Heap) (L : Addr) (m : Str → Option Value) (s : Shared) (Q E : Value → Shared → Prop) (sc : Addr) (vs : List Value) (ns : List Int)
    (B : Below A₀ base outer h₀) (F : Fr h₀ L s.heap m) (X : (hd.heap_39 w.params).In h₀) (N : News h₀ L s.heap [])
    (T : Top hd.view_39 (looseW hd.view_39 [Str.ofString "GateloomError"]) mean mg mb h₀) (hk : cs.kind = .function) (hdp : dp + 1 < recursionLimit) (hun : un + 100 * 1 < cLine)
    (hsc : base.IsList sc vs.toArray) (hi : IntsAre vs ns) (hlen : ns.length ≤ 63)
    (hret : ∀ b us nn rs h' tk', IntsAre us rs → rs.length ≤ 160 → Fr h₀ L h' m → News h₀ L h' [(b, listOf us.toArray nn)] → Q (.ref b) { s with heap := h', toks := tk' }) :
    wpAny (model PySem.Challenge.rw_nn0296_01.row.prog w) (ktrTop dp un gd cn cs L a ccd cl outer) (call (.ref 131) [.ref sc]) Q E s := by
  revert X
  w_top off
  k_fill
  intro X
  k_with_none
  k_with "pyIter ref" => k_of "cell" => k_state (fun pre row => row.length ≤ 31 * pre.length) "row"
  k_with "pyIter ref" => (k_here; (rename News _ _ _ _ => lN8); (simp only [List.push_toArray] at lN8); (have hI8 := news_ints lN8 (by assumption)); k_state_given ["row!"] (fun row0 pre row number => row.length ≤ row0.length + pre.length) "row" "number")
  k_with "call builtin:list.reverse" => (k_here; (with_reducible show wpAny _ _ (call (Value.builtin _) [Value.ref _]) _ _ _); k_dflt (refine' kl_reverse ?F ?N ?e ?U ?z ?_); (case F => k_asm); (case N => k_asm); (case U => k_upd); (case e => rfl); (case z => (show List.length _ ≤ _; rw [PySem.sizeLine_eq, IntsAre.length (by assumption)]; omega)); intro h' F' N'; (try dsimp only [List.nil_append, List.cons_append] at N'))
  refine wpAny_call ?_
  k_dflt cell_enter
  k_steps
  refine' hret _ _ _ _ _ _ (IntsAre.reverse ?hx) ?hy ?hF (news_hd ?hN)
  (case hF => assumption)
  (case hN => assumption)
  (case hx => assumption)
  (case hy => rw [List.length_reverse]; omega)
end Mine
namespace Mine
def manyV (ns : List Int) : Int := ns.count 1
def logicV (kind : String) (ns : List Int) : Int :=
  if kind = "and" then (if manyV ns = ns.length then 1 else 0) else if kind = "nand" then 1 - (if manyV ns = ns.length then 1 else 0)
  else if kind = "or" then (if 0 < manyV ns then 1 else 0) else if kind = "nor" then 1 - (if 0 < manyV ns then 1 else 0)
  else if kind = "xor" then (manyV ns).fmod 2 else if kind = "xnor" then 1 - (manyV ns).fmod 2
  else if kind = "buf" then ns.headD 0 else 1 - ns.headD 0
theorem sub_t {q : Addr × Obj} {l l' : List (Addr × Obj)} (h : ∀ p ∈ l, p ∈ l') : ∀ p ∈ l, p ∈ q :: l' := fun p hp => .tail _ (h p hp)
theorem logic_ct (kind : String) (hz : kindL kind ∨ kind1 kind) (news : List (Addr × Obj)) (l : Addr) (c : Int) (tc : Tok) (vs : List Value) (nn : Nat) (ms : List Int) (tk : Tok) (hi : IntsAre (.int c tc :: vs) (c :: ms)) (hlen : (c :: ms).length ≤ 5) :
    Ct 1 157 [.str (Str.ofString kind) tk, .ref l] ((l, listOf (.int c tc :: vs).toArray nn) :: news) (isInt ((l, listOf (.int c tc :: vs).toArray nn) :: news) (logicV kind (c :: ms))) := by
  unfold Ct
  w_top off
  k_fill
  k_with_none
  intro w mean mg mb dp un gd cn cs a ccd cl outer A₀ base h₀ L m s Q E B F X N T hk hdp hun hret
  have kMark := kstMark
  have hL := IntsAre.length hi
  have hD : (c :: ms).headD 0 = c := rfl
  generalize c :: ms = ns at *
  rcases hz with (rfl | rfl | rfl | rfl | rfl | rfl) | rfl | rfl
  all_goals (
    refine wpAny_call ?_
    k_dflt cell_enter
    k_steps
    all_goals (
      refine hret _ _ _ _ (isInt.mk ?_) (by assumption) (kst_newsOf (by assumption) (by first | exact fun p hp => hp | exact sub_t fun p hp => hp | exact sub_t (sub_t fun p hp => hp) | exact sub_t (sub_t (sub_t fun p hp => hp)) | exact sub_t (sub_t (sub_t (sub_t fun p hp => hp)))))
      (simp only [logicV, manyV, String.reduceEq, reduceIte, hD] <;> (repeat' split) <;> first | rfl | omega)))
end Mine
namespace Mine
open PySem.Calls PySem.Spec
/-- a list comprehension with two clauses and no tests -/
abbrev lc2 (elt t1 i1 t2 i2 : PySem.Expr) (scope : Scope) (pos : Pos) : PySem.Expr := .ListComp elt [⟨t1, i1, [], 0⟩, ⟨t2, i2, [], 0⟩] scope pos
theorem turn0_eq (elt t1 i1 t2 i2 : PySem.Expr) (scope : Scope) (pos : Pos) (it acc : Value) (env : Env) :
    compTurn (lc2 elt t1 i1 t2 i2 scope pos) 0 it acc env = (standAt i1.pos >>= fun _ => pyNext it >>= fun r => match r with
      | none => pure (.done .next)
      | some v => letOwnedTupleGo t1 it v >>= fun _ => assign t1 env v >>= fun _ =>
        eval i2 env >>= fun x => standAt i2.pos >>= fun _ => foldedSetIterable i2 env x >>= fun x => holding [x] (pyIter x) >>= fun j => runOwn (.compStart (lc2 elt t1 i1 t2 i2 scope pos) 1 j acc env) env >>= fun _ =>
          again (.compLoop (lc2 elt t1 i1 t2 i2 scope pos) 0 it acc env)) := by rfl
theorem turn1_eq (elt t1 i1 t2 i2 : PySem.Expr) (scope : Scope) (pos : Pos) (it acc : Value) (env : Env) :
    compTurn (lc2 elt t1 i1 t2 i2 scope pos) 1 it acc env = (standAt i2.pos >>= fun _ => pyNext it >>= fun r => match r with
      | none => pure (.done .next)
      | some v => letOwnedTupleGo t2 it v >>= fun _ => assign t2 env v >>= fun _ =>
        (eval elt env >>= fun x => call (.builtin "list.append") [acc, x] >>= fun _ => pure ()) >>= fun _ =>
          again (.compLoop (lc2 elt t1 i1 t2 i2 scope pos) 1 it acc env)) := by rfl
section
variable {prog : Program} {w : World} {A : Around} {R : Result → Shared → Prop} {s : Shared} {elt t1 i1 t2 i2 : PySem.Expr} {scope : Scope} {pos : Pos} {it acc : Value} {env : Env}
theorem loop0_step (h : wpAny (model prog w) A (pyNext it) (fun r s₁ => match r with
      | none => R (.ok .next) s₁
      | some v => wpAny (model prog w) A (assign t1 env v) (fun _ s₂ => wpAny (model prog w) A (eval i2 env) (fun x s₃ => wpAny (model prog w) A (pyIter x) (fun j s₄ =>
          codeAny (model prog w) (A.mark none) (.compStart (lc2 elt t1 i1 t2 i2 scope pos) 1 j acc env) (fun r s₅ => r = .ok .next ∧ codeAny (model prog w) A (.compLoop (lc2 elt t1 i1 t2 i2 scope pos) 0 it acc env) R s₅) s₄)
          (fun _ _ => False) s₃) (fun _ _ => False) s₂) (fun _ _ => False) s₁) (fun _ _ => False) s)
    (ht : ∀ v, letOwnedTupleGo t1 it v = pure () := by intro _; rfl) (hs : ∀ x, foldedSetIterable i2 env x = pure x := by intro _; rfl) :
    codeAny (model prog w) A (.compLoop (lc2 elt t1 i1 t2 i2 scope pos) 0 it acc env) R s := by
  refine codeAny_of_tree ?_
  show wpAny _ A ((compTurn (lc2 elt t1 i1 t2 i2 scope pos) 0 it acc env).onRaise (fun x => do noteFrame x env; theTreesLotGoes x)) _ _ s
  refine wpAny_noted ?_
  rw [turn0_eq]
  refine wpAny_bind (wpAny_standAt (wpAny_bind (wpAny_mono h (fun r s₁ h₁ => ?_) fun _ _ h' => h'.elim)))
  cases r with
  | none => exact wpAny_pure h₁
  | some v =>
    refine wpAny_bind (wpAny_of_eq (ht v) ?_)
    refine wpAny_bind (wpAny_mono h₁ (fun _ s₂ h₂ => ?_) fun _ _ h' => h'.elim)
    refine wpAny_bind (wpAny_mono h₂ (fun x s₃ h₃ => ?_) fun _ _ h' => h'.elim)
    refine wpAny_bind (wpAny_standAt (wpAny_bind (wpAny_of_eq (hs x) (wpAny_bind (wpAny_holding (wpAny_mono h₃ (fun j s₄ h₄ => ?_) fun _ _ h' => h'.elim))))))
    refine wpAny_bind (wpAny_runOwn (codeAny_mono h₄ fun r s₅ h₅ => ?_))
    obtain ⟨rfl, h₅⟩ := h₅
    exact wpAny_pure ⟨rfl, h₅⟩
theorem loop1_step (h : wpAny (model prog w) A (pyNext it) (fun r s₁ => match r with
      | none => R (.ok .next) s₁
      | some v => wpAny (model prog w) A (assign t2 env v) (fun _ s₂ => wpAny (model prog w) A (eval elt env) (fun x s₃ => wpAny (model prog w) A (call (.builtin "list.append") [acc, x]) (fun _ s₄ =>
          codeAny (model prog w) A (.compLoop (lc2 elt t1 i1 t2 i2 scope pos) 1 it acc env) R s₄)
          (fun _ _ => False) s₃) (fun _ _ => False) s₂) (fun _ _ => False) s₁) (fun _ _ => False) s)
    (ht : ∀ v, letOwnedTupleGo t2 it v = pure () := by intro _; rfl) :
    codeAny (model prog w) A (.compLoop (lc2 elt t1 i1 t2 i2 scope pos) 1 it acc env) R s := by
  refine codeAny_of_tree ?_
  show wpAny _ A ((compTurn (lc2 elt t1 i1 t2 i2 scope pos) 1 it acc env).onRaise (fun x => do noteFrame x env; theTreesLotGoes x)) _ _ s
  refine wpAny_noted ?_
  rw [turn1_eq]
  refine wpAny_bind (wpAny_standAt (wpAny_bind (wpAny_mono h (fun r s₁ h₁ => ?_) fun _ _ h' => h'.elim)))
  cases r with
  | none => exact wpAny_pure h₁
  | some v =>
    refine wpAny_bind (wpAny_of_eq (ht v) ?_)
    refine wpAny_bind (wpAny_mono h₁ (fun _ s₂ h₂ => ?_) fun _ _ h' => h'.elim)
    refine wpAny_bind (wpAny_bind (wpAny_mono h₂ (fun x s₃ h₃ => ?_) fun _ _ h' => h'.elim))
    refine wpAny_bind (wpAny_mono h₃ (fun _ s₄ h₄ => ?_) fun _ _ h' => h'.elim)
    exact wpAny_pure (wpAny_pure ⟨rfl, h₄⟩)
theorem start1 (h0 : codeAny (model prog w) A (.compLoop (lc2 elt t1 i1 t2 i2 scope pos) 1 it acc env) R s)
    (h : wpAny (model prog w) A (pyIter it) (fun it' s' => codeAny (model prog w) A (.compLoop (lc2 elt t1 i1 t2 i2 scope pos) 1 it' acc env) R s') (fun _ _ => False) s) :
    codeAny (model prog w) A (.compStart (lc2 elt t1 i1 t2 i2 scope pos) 1 it acc env) R s := by
  refine codeAny_of_tree ?_
  show wpAny _ A ((compStart (lc2 elt t1 i1 t2 i2 scope pos) 1 it acc env).onRaise (fun x => do noteFrame x env; standAt theWindowsPlace)) _ _ s
  refine wpAny_notedAt ?_
  unfold compStart
  show wpAny _ _ (ask >>= _) _ _ s
  refine wpAny_bind (wpAny_askSetting (wpAny_ite ?_))
  split
  · first
      | exact wpAny_bind (wpAny_pure (wpAny_pure (And.intro rfl h0)))
      | exact wpAny_pure (And.intro rfl h0)
  · first
      | exact wpAny_bind (wpAny_rule (wpAny_bind (wpAny_standAt (wpAny_bind (wpAny_mono h (fun it' s' h' => wpAny_pure (And.intro rfl h')) fun _ _ x => x.elim)))))
      | (refine wpAny_bind (wpAny_rule ?_); show wpAny _ _ (standAt i2.pos >>= _) _ _ s; exact wpAny_bind (wpAny_standAt (wpAny_bind (wpAny_mono h (fun it' s' h' => wpAny_pure (And.intro rfl h')) fun _ _ x => x.elim))))
end
end Mine
namespace Mine
open PySem.Calls PySem.Spec
/-- the state of a comprehension's block: its iterator, its names, what it has gathered, the ledger apart from them -/
structure CSt (h₀ : Heap) (L : Addr) (m : Str → Option Value) (h : Heap) (I : Addr) (oI : Obj) (C : Addr) (oC : Obj) (D : Addr) (ys : List Value) (led : List (Addr × Obj)) : Prop where
  F : Fr h₀ L h m
  N : News h₀ L h ((I, oI) :: (C, oC) :: (D, LCg.lst ys) :: led)
  off : ∀ p ∈ led, p.1 ≠ I ∧ p.1 ≠ C ∧ p.1 ≠ D
  IC : I ≠ C
  ID : I ≠ D
  CD : C ≠ D
def LIter (o : Obj) (X : Addr) (i : Nat) : Prop := o.cls = .type "list_iterator" ∧ o.data = .fields #[.ref X, .int i 0]
section
variable {h₀ h h' : Heap} {L I C D : Addr} {m : Str → Option Value} {oI oC : Obj} {ys : List Value} {led : List (Addr × Obj)}
theorem fr_ext {d : Addr} (F : Fr h₀ L h m) (hs : Heap.ExtBut d h h') (hL : d ≠ L) (hn : h₀.get? d = none) : Fr h₀ L h' m :=
  ⟨F.ns.at' fun o e => hs L o hL.symm e, fun b o e => hs b o (fun q => by rw [q, hn] at e; cases e) (F.keep b o e), F.above⟩
theorem news_ext {d : Addr} {l : List (Addr × Obj)} (N : News h₀ L h l) (hs : Heap.ExtBut d h h') (off : ∀ p ∈ l, p.1 ≠ d) : News h₀ L h' l :=
  fun p hp => ⟨hs _ _ (off p hp) (N p hp).1, (N p hp).2⟩
theorem CSt.gI (S : CSt h₀ L m h I oI C oC D ys led) : h.get? I = some oI := (S.N _ (.head _)).1
theorem CSt.gC (S : CSt h₀ L m h I oI C oC D ys led) : h.get? C = some oC := (S.N _ (.tail _ (.head _))).1
theorem CSt.gD (S : CSt h₀ L m h I oI C oC D ys led) : h.get? D = some (LCg.lst ys) := (S.N _ (.tail _ (.tail _ (.head _)))).1
theorem CSt.inner_N (S : CSt h₀ L m h I oI C oC D ys led) : News h₀ L h led := kst_newsOf S.N fun _ hp => .tail _ (.tail _ (.tail _ hp))
theorem CSt.stepI {oI' : Obj} (S : CSt h₀ L m h I oI C oC D ys led) (hs : Heap.ExtBut I h h') (ho : h'.get? I = some oI') : CSt h₀ L m h' I oI' C oC D ys led := by
  have zI := S.N _ (.head _)
  refine ⟨fr_ext S.F hs zI.2.1 zI.2.2, fun p hp => ?_, S.off, S.IC, S.ID, S.CD⟩
  rcases List.mem_cons.mp hp with rfl | hp
  · exact ⟨ho, zI.2⟩
  · refine ⟨hs _ _ ?_ (S.N p (.tail _ hp)).1, (S.N p (.tail _ hp)).2⟩
    rcases List.mem_cons.mp hp with rfl | hp
    · exact S.IC.symm
    · rcases List.mem_cons.mp hp with rfl | hp
      · exact S.ID.symm
      · exact (S.off p hp).1
theorem CSt.stepC {oC' : Obj} (S : CSt h₀ L m h I oI C oC D ys led) (hs : Heap.ExtBut C h h') (ho : h'.get? C = some oC') : CSt h₀ L m h' I oI C oC' D ys led := by
  have zC := S.N _ (.tail _ (.head _))
  refine ⟨fr_ext S.F hs zC.2.1 zC.2.2, fun p hp => ?_, S.off, S.IC, S.ID, S.CD⟩
  rcases List.mem_cons.mp hp with rfl | hp
  · exact ⟨hs _ _ S.IC S.gI, (S.N _ (.head _)).2⟩
  · rcases List.mem_cons.mp hp with rfl | hp
    · exact ⟨ho, zC.2⟩
    · refine ⟨hs _ _ ?_ (S.N p (.tail _ (.tail _ hp))).1, (S.N p (.tail _ (.tail _ hp))).2⟩
      rcases List.mem_cons.mp hp with rfl | hp
      · exact S.CD.symm
      · exact (S.off p hp).2.1
theorem CSt.stepD {ys' : List Value} (S : CSt h₀ L m h I oI C oC D ys led) (hs : Heap.ExtBut D h h') (ho : h'.get? D = some (LCg.lst ys')) : CSt h₀ L m h' I oI C oC D ys' led := by
  have zD := S.N _ (.tail _ (.tail _ (.head _)))
  refine ⟨fr_ext S.F hs zD.2.1 zD.2.2, fun p hp => ?_, S.off, S.IC, S.ID, S.CD⟩
  rcases List.mem_cons.mp hp with rfl | hp
  · exact ⟨hs _ _ S.ID S.gI, (S.N _ (.head _)).2⟩
  · rcases List.mem_cons.mp hp with rfl | hp
    · exact ⟨hs _ _ S.CD S.gC, (S.N _ (.tail _ (.head _))).2⟩
    · rcases List.mem_cons.mp hp with rfl | hp
      · exact ⟨ho, zD.2⟩
      · exact ⟨hs _ _ (S.off p hp).2.2 (S.N p (.tail _ (.tail _ (.tail _ hp)))).1, (S.N p (.tail _ (.tail _ (.tail _ hp)))).2⟩
end
def RowAt (led : List (Addr × Obj)) (v : Value) (r : List Int) : Prop := ∃ a us n, v = .ref a ∧ (a, listOf us.toArray n) ∈ led ∧ IntsAre us r
theorem RowAt.mono {led led' : List (Addr × Obj)} {v : Value} {r : List Int} (h : RowAt led v r) (hs : ∀ p ∈ led, p ∈ led') : RowAt led' v r :=
  let ⟨a, us, n, e, hm, hi⟩ := h; ⟨a, us, n, e, hs _ hm, hi⟩
abbrev RowsAre (led : List (Addr × Obj)) : List Value → List (List Int) → Prop := PySem.Paired (RowAt led)
theorem RowsAre.mono {led led' : List (Addr × Obj)} (hs : ∀ p ∈ led, p ∈ led') : ∀ {vs : List Value} {rs : List (List Int)}, RowsAre led vs rs → RowsAre led' vs rs
  | _, _, .nil => .nil
  | _, _, .cons h t => .cons (h.mono hs) (RowsAre.mono hs t)
/-- the element's value: a new list, the row with the choice behind it -/
def EltOk (prog : Program) (w : World) (A : Around) (h₀ : Heap) (L : Addr) (m : Str → Option Value) (C : Addr) (cenv : Env) (elt : PySem.Expr) (xr xc : Str) : Prop :=
  ∀ (s : Shared) (all : List (Addr × Obj)) (oC : Obj) (m₂ : Str → Option Value) (a : Addr) (us : List Value) (n : Nat) (r : List Int) (c : Int) (t : Tok) (Q E : Value → Shared → Prop),
    Fr h₀ L s.heap m → News h₀ L s.heap all → (C, oC) ∈ all → LCg.NsObj oC m₂ → m₂ xr = some (.ref a) → m₂ xc = some (.int c t) → (a, listOf us.toArray n) ∈ all → IntsAre us r → r.length ≤ 5 →
    (∀ b us' n' h' tk', Fr h₀ L h' m → News h₀ L h' ((b, listOf us'.toArray n') :: all) → (∀ p ∈ all, p.1 < b) → IntsAre us' (r ++ [c]) → Q (.ref b) { s with heap := h', toks := tk' }) →
    wpAny (model prog w) A (eval elt cenv) Q E s
section
variable {prog : Program} {w : World} {A : Around} {R : Result → Shared → Prop} {s : Shared} {h₀ : Heap} {L I C D X : Addr} {m : Str → Option Value} {env : Env} {elt i1 i2 : PySem.Expr} {xr xc : Str} {pr pc : Pos} {scope : Scope} {cl : List (Str × Addr)} {pos : Pos}
theorem inner (hh : A.handled = none) (hE : EltOk prog w A h₀ L m C (compEnvC scope cl C env) elt xr xc) (hkind : scope.kind = .function) (hxc : scope.names.lookup xc = some .local) (hne : xr ≠ xc)
    {its : List Value} {nX : Nat} {a : Addr} {us : List Value} {n : Nat} {r : List Int} (hu : IntsAre us r) (hr : r.length ≤ 5) :
    ∀ (rem : List Value) (cs : List Int) (j : Nat) (ys : List Value) (done : List (List Int)) (led : List (Addr × Obj)) (h : Heap) (tk : Nat) (oI oC : Obj) (m₂ : Str → Option Value),
      CSt h₀ L m h I oI C oC D ys led → LIter oI X j → its.drop j = rem → IntsAre rem cs → (X, listOf its.toArray nX) ∈ led → LCg.NsObj oC m₂ → m₂ xr = some (.ref a) → (a, listOf us.toArray n) ∈ led → RowsAre led ys done →
      ys.length + rem.length ≤ 1000 →
      (∀ nw ys' oC' m₂' h' tk', Fr h₀ L h' m → News h₀ L h' ((C, oC') :: (D, LCg.lst ys') :: (nw ++ led)) → (∀ p ∈ nw, p.1 ≠ C ∧ p.1 ≠ D ∧ ∀ q ∈ led, q.1 ≠ p.1) → LCg.NsObj oC' m₂' →
        RowsAre (nw ++ led) ys' (done ++ cs.map fun c => r ++ [c]) → ys'.length = ys.length + rem.length → R (.ok .next) { s with heap := h', toks := tk' }) →
      codeAny (model prog w) A (.compLoop (lc2 elt (.Name xr pr) i1 (.Name xc pc) i2 scope pos) 1 (.ref I) (.ref D) (compEnvC scope cl C env)) R { s with heap := h, toks := tk } := by
  intro rem
  induction rem with
  | nil =>
    intro cs j ys done led h tk oI oC m₂ S hI hd hcs hX hC hm hA hRw hsz k
    cases hcs
    have hl : h.IsList X its.toArray := ⟨_, (S.inner_N _ hX).1, rfl, nX, rfl⟩
    have hit : h.IsListIter I X j := ⟨oI, S.gI, hI.1, hI.2⟩
    have hj : its.toArray[j]? = none := by
      have : its.length ≤ j := List.drop_eq_nil_iff.mp hd
      simpa using this
    refine loop1_step (wpAny_pyNext_list_end hh hit hl hj fun h' he => ?_)
    have zI := S.N _ (.head _)
    refine k [] ys oC m₂ h' tk (fr_ext S.F he zI.2.1 zI.2.2) ?_ (fun _ hp => nomatch hp) hC (by simpa using hRw) (by simp)
    refine news_ext (kst_newsOf S.N fun _ hp => .tail _ hp) he fun p hp => ?_
    rcases List.mem_cons.mp hp with rfl | hp
    · exact S.IC.symm
    · rcases List.mem_cons.mp hp with rfl | hp
      · exact S.ID.symm
      · exact (S.off p hp).1
  | cons v rem ih =>
    intro cs j ys done led h tk oI oC m₂ S hI hd hcs hX hC hm hA hRw hsz k
    obtain ⟨c, t, cs', rfl, rfl, hcs'⟩ : ∃ c t cs', v = .int c t ∧ cs = c :: cs' ∧ IntsAre rem cs' := by
      cases hcs with
      | cons c t h => exact ⟨c, t, _, rfl, rfl, h⟩
    have hl : h.IsList X its.toArray := ⟨_, (S.inner_N _ hX).1, rfl, nX, rfl⟩
    have hit : h.IsListIter I X j := ⟨oI, S.gI, hI.1, hI.2⟩
    have hj : its[j]? = some (.int c t) := by
      have e := congrArg (·[0]?) hd
      simpa using e
    have hd' : its.drop (j + 1) = rem := by
      have e := congrArg List.tail hd
      simpa [List.tail_drop] using e
    refine loop1_step (wpAny_pyNext_list_item hit hl (x := .int c t) (by simpa using hj) fun h₁ hit₁ hs₁ => ?_)
    obtain ⟨oI₁, hoI₁, hI₁⟩ := hit₁
    have S₁ := S.stepI hs₁.extBut hoI₁
    refine wpAny_assign_Name (wpAny_storeName_local (lookup_relabel_local hxc) (hC.ns S₁.gC) (fun h₂ hn₂ hs₂ => ?_) (by simp [compEnvC, relabel, hkind]))
    obtain ⟨oC₂, hoC₂, hC₂⟩ := LCg.ns_obj hn₂
    have S₂ := S₁.stepC hs₂.extBut hoC₂
    have hm₂ : (fun x => if x = xc then some (Value.int c t) else m₂ x) xr = some (.ref a) := by
      show (if xr = xc then _ else _) = _
      rw [if_neg hne]; exact hm
    refine hE _ _ oC₂ _ a us n r c t _ _ S₂.F S₂.N (.tail _ (.head _)) hC₂ hm₂ (by simp) (.tail _ (.tail _ (.tail _ hA))) hu hr fun b us' n' h₃ tk₃ F₃ N₃ hb hu' => ?_
    have gD₃ := (N₃ (D, LCg.lst ys) (.tail _ (.tail _ (.tail _ (.head _))))).1
    refine append_at (hsz := by show ys.toArray.size ≤ sizeLine; rw [List.size_toArray, PySem.sizeLine_eq]; simp only [List.length_cons] at hsz; omega) gD₃ fun h₄ hs₄ hD₄ => ?_
    have bI : I < b := hb (I, oI₁) (.head _)
    have bC : C < b := hb (C, oC₂) (.tail _ (.head _))
    have bD : D < b := hb (D, LCg.lst ys) (.tail _ (.tail _ (.head _)))
    have bl : ∀ p ∈ led, p.1 < b := fun p hp => hb p (.tail _ (.tail _ (.tail _ hp)))
    have S₃ : CSt h₀ L m h₃ I oI₁ C oC₂ D ys ((b, listOf us'.toArray n') :: led) := by
      refine ⟨F₃, kst_newsOf N₃ fun p hp => ?_, fun p hp => ?_, S.IC, S.ID, S.CD⟩
      · rcases List.mem_cons.mp hp with rfl | hp
        · exact .tail _ (.head _)
        · rcases List.mem_cons.mp hp with rfl | hp
          · exact .tail _ (.tail _ (.head _))
          · rcases List.mem_cons.mp hp with rfl | hp
            · exact .tail _ (.tail _ (.tail _ (.head _)))
            · rcases List.mem_cons.mp hp with rfl | hp
              · exact .head _
              · exact .tail _ (.tail _ (.tail _ (.tail _ hp)))
      · rcases List.mem_cons.mp hp with rfl | hp
        · exact ⟨Nat.ne_of_gt bI, Nat.ne_of_gt bC, Nat.ne_of_gt bD⟩
        · exact S.off p hp
    have S₄ := S₃.stepD hs₄.extBut (hD₄.trans (congrArg some (LCg.lst_snoc ys (.ref b))))
    have hRw' : RowsAre ((b, listOf us'.toArray n') :: led) (ys ++ [.ref b]) (done ++ [r ++ [c]]) :=
      PySem.Paired.snoc (hRw.mono fun p hp => .tail _ hp) ⟨b, us', n', rfl, .head _, hu'⟩
    refine ih cs' (j + 1) (ys ++ [.ref b]) (done ++ [r ++ [c]]) ((b, listOf us'.toArray n') :: led) h₄ tk₃ oI₁ oC₂ _ S₄ hI₁ hd' hcs' (.tail _ hX) hC₂ hm₂ (.tail _ hA) hRw'
      (by simp only [List.length_append, List.length_cons, List.length_nil] at hsz ⊢; omega) fun nw ys' oC' m₂' h' tk' F' N' hnw hC' hR' hlen => ?_
    have e : nw ++ (b, listOf us'.toArray n') :: led = (nw ++ [(b, listOf us'.toArray n')]) ++ led := by simp
    rw [e] at N' hR'
    refine k (nw ++ [(b, listOf us'.toArray n')]) ys' oC' m₂' h' tk' F' N' (fun p hp => ?_) hC' (by simpa using hR') (by simp only [List.length_append, List.length_cons, List.length_nil] at hlen ⊢; omega)
    rcases List.mem_append.mp hp with hp | hp
    · have z := hnw p hp
      exact ⟨z.1, z.2.1, fun q hq => z.2.2 q (.tail _ hq)⟩
    · rw [List.mem_singleton.mp hp]
      exact ⟨Nat.ne_of_gt bC, Nat.ne_of_gt bD, fun q hq => Nat.ne_of_lt (bl q hq)⟩
/-- the second clause's list: new, its ints are cs -/
def IterOk (prog : Program) (w : World) (A : Around) (h₀ : Heap) (L : Addr) (m : Str → Option Value) (cenv : Env) (i2 : PySem.Expr) (cs : List Int) (need : List (Addr × Obj)) : Prop :=
  ∀ (s : Shared) (all : List (Addr × Obj)) (Q E : Value → Shared → Prop), Fr h₀ L s.heap m → News h₀ L s.heap all → (∀ p ∈ need, p ∈ all) →
    (∀ X its n h' tk', Fr h₀ L h' m → News h₀ L h' ((X, listOf its.toArray n) :: all) → (∀ p ∈ all, p.1 < X) → IntsAre its cs → Q (.ref X) { s with heap := h', toks := tk' }) →
    wpAny (model prog w) A (eval i2 cenv) Q E s
theorem outer (hh : A.handled = none) {cs : List Int} {need : List (Addr × Obj)} (hI2 : IterOk prog w A h₀ L m (compEnvC scope cl C env) i2 cs need) (hE : EltOk prog w A h₀ L m C (compEnvC scope cl C env) elt xr xc)
    (hkind : scope.kind = .function) (hxr : scope.names.lookup xr = some .local) (hxc : scope.names.lookup xc = some .local) (hne : xr ≠ xc) (hcs : cs.length ≤ 2) {xs : List Value} {nX : Nat}
    (hs2 : ∀ x, foldedSetIterable i2 (compEnvC scope cl C env) x = pure x) :
    ∀ (rem : List Value) (rr : List (List Int)) (i : Nat) (ys : List Value) (done : List (List Int)) (led : List (Addr × Obj)) (h : Heap) (tk : Nat) (oI oC : Obj) (m₂ : Str → Option Value),
      CSt h₀ L m h I oI C oC D ys led → LIter oI X i → xs.drop i = rem → RowsAre led rem rr → (∀ r ∈ rr, r.length ≤ 5) → (X, listOf xs.toArray nX) ∈ led → (∀ p ∈ need, p ∈ led) → LCg.NsObj oC m₂ → RowsAre led ys done →
      ys.length + 2 * rem.length ≤ 1000 →
      (∀ nw ys' oC' m₂' h' tk', Fr h₀ L h' m → News h₀ L h' ((C, oC') :: (D, LCg.lst ys') :: (nw ++ led)) → (∀ p ∈ nw ++ led, p.1 ≠ C ∧ p.1 ≠ D) → (∀ p ∈ nw, ∀ q ∈ led, q.1 ≠ p.1) → LCg.NsObj oC' m₂' →
        RowsAre (nw ++ led) ys' (done ++ rr.flatMap fun r => cs.map fun c => r ++ [c]) → R (.ok .next) { s with heap := h', toks := tk' }) →
      codeAny (model prog w) A (.compLoop (lc2 elt (.Name xr pr) i1 (.Name xc pc) i2 scope pos) 0 (.ref I) (.ref D) (compEnvC scope cl C env)) R { s with heap := h, toks := tk } := by
  intro rem
  induction rem with
  | nil =>
    intro rr i ys done led h tk oI oC m₂ S hI hd hrr hr5 hX hneed hC hRw hsz k
    cases hrr
    have hl : h.IsList X xs.toArray := ⟨_, (S.inner_N _ hX).1, rfl, nX, rfl⟩
    have hit : h.IsListIter I X i := ⟨oI, S.gI, hI.1, hI.2⟩
    have hj : xs.toArray[i]? = none := by
      have : xs.length ≤ i := List.drop_eq_nil_iff.mp hd
      simpa using this
    refine loop0_step (wpAny_pyNext_list_end hh hit hl hj fun h' he => ?_) (fun _ => rfl) hs2
    have zI := S.N _ (.head _)
    refine k [] ys oC m₂ h' tk (fr_ext S.F he zI.2.1 zI.2.2) ?_ (fun p hp => ⟨(S.off p hp).2.1, (S.off p hp).2.2⟩) (fun _ hp => nomatch hp) hC (by simpa using hRw)
    refine news_ext (kst_newsOf S.N fun _ hp => .tail _ hp) he fun p hp => ?_
    rcases List.mem_cons.mp hp with rfl | hp
    · exact S.IC.symm
    · rcases List.mem_cons.mp hp with rfl | hp
      · exact S.ID.symm
      · exact (S.off p hp).1
  | cons v rem ih =>
    intro rr i ys done led h tk oI oC m₂ S hI hd hrr hr5 hX hneed hC hRw hsz k
    obtain ⟨r, rr', rfl, hrow, hrr'⟩ : ∃ r rr', rr = r :: rr' ∧ RowAt led v r ∧ RowsAre led rem rr' := by
      cases hrr with
      | cons a b => exact ⟨_, _, rfl, a, b⟩
    obtain ⟨a, us, n, rfl, hA, hu⟩ := hrow
    have hl : h.IsList X xs.toArray := ⟨_, (S.inner_N _ hX).1, rfl, nX, rfl⟩
    have hit : h.IsListIter I X i := ⟨oI, S.gI, hI.1, hI.2⟩
    have hj : xs[i]? = some (.ref a) := by
      have e := congrArg (·[0]?) hd
      simpa using e
    have hd' : xs.drop (i + 1) = rem := by
      have e := congrArg List.tail hd
      simpa [List.tail_drop] using e
    refine loop0_step (wpAny_pyNext_list_item hit hl (x := .ref a) (by simpa using hj) fun h₁ hit₁ hs₁ => ?_) (fun _ => rfl) hs2
    obtain ⟨oI₁, hoI₁, hI₁⟩ := hit₁
    have S₁ := S.stepI hs₁.extBut hoI₁
    refine wpAny_assign_Name (wpAny_storeName_local (lookup_relabel_local hxr) (hC.ns S₁.gC) (fun h₂ hn₂ hs₂ => ?_) (by simp [compEnvC, relabel, hkind]))
    obtain ⟨oC₂, hoC₂, hC₂⟩ := LCg.ns_obj hn₂
    have S₂ := S₁.stepC hs₂.extBut hoC₂
    refine hI2 _ _ _ _ S₂.F S₂.N (fun p hp => .tail _ (.tail _ (.tail _ (hneed p hp)))) fun X₂ its n₂ h₃ tk₃ F₃ N₃ hb hits => ?_
    have hX₂ : h₃.IsList X₂ its.toArray := ⟨_, (N₃ _ (.head _)).1, rfl, n₂, rfl⟩
    refine wpAny_pyIter_list hX₂ ?_
    have lI : I < X₂ := hb (I, oI₁) (.head _)
    have lC : C < X₂ := hb (C, oC₂) (.tail _ (.head _))
    have lD : D < X₂ := hb (D, LCg.lst ys) (.tail _ (.tail _ (.head _)))
    have ll : ∀ p ∈ led, p.1 < X₂ := fun p hp => hb p (.tail _ (.tail _ (.tail _ hp)))
    have lt₃ : ∀ p ∈ (X₂, listOf its.toArray n₂) :: (I, oI₁) :: (C, oC₂) :: (D, LCg.lst ys) :: led, p.1 < h₃.objs.size := fun p hp => Heap.lt_size (N₃ p hp).1
    generalize hH : h₃.push { cls := .type "list_iterator", data := .fields #[.ref X₂, .int 0 0] } = h₄
    have g₄ : h₄.get? h₃.objs.size = some { cls := .type "list_iterator", data := .fields #[.ref X₂, .int 0 0] } := hH ▸ Heap.get?_push_size _ rfl
    have F₄ : Fr h₀ L h₄ m := hH ▸ F₃.push _
    have N₄ : News h₀ L h₄ ((h₃.objs.size, { cls := .type "list_iterator", data := .fields #[.ref X₂, .int 0 0] }) :: (X₂, listOf its.toArray n₂) :: (I, oI₁) :: (C, oC₂) :: (D, LCg.lst ys) :: led) := hH ▸ News.push F₃ N₃ _
    have S₄ : CSt h₀ L m h₄ h₃.objs.size { cls := .type "list_iterator", data := .fields #[.ref X₂, .int 0 0] } C oC₂ D ys ((X₂, listOf its.toArray n₂) :: (I, oI₁) :: led) := by
      refine ⟨F₄, kst_newsOf N₄ fun p hp => ?_, fun p hp => ?_, ?_, ?_, S.CD⟩
      · simp only [List.mem_cons] at hp ⊢
        rcases hp with h | h | h | h | h | h
        · exact .inl h
        · exact .inr (.inr (.inr (.inl h)))
        · exact .inr (.inr (.inr (.inr (.inl h))))
        · exact .inr (.inl h)
        · exact .inr (.inr (.inl h))
        · exact .inr (.inr (.inr (.inr (.inr h))))
      · rcases List.mem_cons.mp hp with rfl | hp
        · exact ⟨Nat.ne_of_lt (lt₃ _ (.head _)), Nat.ne_of_gt lC, Nat.ne_of_gt lD⟩
        · rcases List.mem_cons.mp hp with rfl | hp
          · exact ⟨Nat.ne_of_lt (lt₃ _ (.tail _ (.head _))), S.IC, S.ID⟩
          · exact ⟨Nat.ne_of_lt (lt₃ _ (.tail _ (.tail _ (.tail _ (.tail _ hp))))), (S.off p hp).2⟩
      · exact Nat.ne_of_gt (lt₃ (C, oC₂) (.tail _ (.tail _ (.head _))))
      · exact Nat.ne_of_gt (lt₃ (D, LCg.lst ys) (.tail _ (.tail _ (.tail _ (.head _)))))
    have hlen : its.length = cs.length := hits.length
    have sub₁ : ∀ p ∈ led, p ∈ (X₂, listOf its.toArray n₂) :: (I, oI₁) :: led := fun p hp => .tail _ (.tail _ hp)
    have go : codeAny (model prog w) A (.compLoop (lc2 elt (.Name xr pr) i1 (.Name xc pc) i2 scope pos) 1 (.ref h₃.objs.size) (.ref D) (compEnvC scope cl C env))
        (fun r s₅ => r = .ok .next ∧ codeAny (model prog w) A (.compLoop (lc2 elt (.Name xr pr) i1 (.Name xc pc) i2 scope pos) 0 (.ref I) (.ref D) (compEnvC scope cl C env)) R s₅) { s with heap := h₄, toks := tk₃ } := by
      refine inner (R := fun r s₅ => r = .ok .next ∧ codeAny (model prog w) A (.compLoop (lc2 elt (.Name xr pr) i1 (.Name xc pc) i2 scope pos) 0 (.ref I) (.ref D) (compEnvC scope cl C env)) R s₅) (s := s) hh hE hkind hxc hne hu (hr5 r (.head _)) its cs 0 ys done _ h₄ tk₃ _ oC₂ _ S₄ ⟨rfl, rfl⟩ rfl hits (.head _) hC₂ (by simp) (sub₁ _ hA) (hRw.mono sub₁)
        (by simp only [List.length_cons] at hsz; omega) fun nw ys' oC' m₂' h' tk' F' N' hnw hC' hR' hy => ?_
      refine ⟨rfl, ?_⟩
      have S' : CSt h₀ L m h' I oI₁ C oC' D ys' (nw ++ (X₂, listOf its.toArray n₂) :: led) := by
        refine ⟨F', kst_newsOf N' fun p hp => ?_, fun p hp => ?_, S.IC, S.ID, S.CD⟩
        · simp only [List.mem_cons, List.mem_append] at hp ⊢
          rcases hp with h | h | h | h | h | h
          · exact .inr (.inr (.inr (.inr (.inl h))))
          · exact .inl h
          · exact .inr (.inl h)
          · exact .inr (.inr (.inl h))
          · exact .inr (.inr (.inr (.inl h)))
          · exact .inr (.inr (.inr (.inr (.inr h))))
        · rcases List.mem_append.mp hp with hp | hp
          · have z := hnw p hp
            exact ⟨(z.2.2 (I, oI₁) (.tail _ (.head _))).symm, z.1, z.2.1⟩
          · rcases List.mem_cons.mp hp with rfl | hp
            · exact ⟨Nat.ne_of_gt lI, Nat.ne_of_gt lC, Nat.ne_of_gt lD⟩
            · exact S.off p hp
      have subL : ∀ p ∈ led, p ∈ nw ++ (X₂, listOf its.toArray n₂) :: led := fun p hp => List.mem_append_right _ (.tail _ hp)
      have hR'' : RowsAre (nw ++ (X₂, listOf its.toArray n₂) :: led) ys' (done ++ cs.map fun c => r ++ [c]) := by
        have key : ∀ {vs : List Value} {rs : List (List Int)}, RowsAre (nw ++ (X₂, listOf its.toArray n₂) :: (I, oI₁) :: led) vs rs → RowsAre (nw ++ (X₂, listOf its.toArray n₂) :: led) vs rs := by
          intro vs rs hR
          induction hR with
          | nil => exact .nil
          | cons x _ ih =>
            refine .cons ?_ ih
            obtain ⟨a', us', n', e, hm, hi⟩ := x
            refine ⟨a', us', n', e, ?_, hi⟩
            simp only [List.mem_append, List.mem_cons] at hm ⊢
            rcases hm with h | h | h | h
            · exact .inl h
            · exact .inr (.inl h)
            · exfalso
              have e := (congrArg (fun p : Addr × Obj => p.2.cls) h).trans hI₁.1
              exact absurd (Value.type.inj e) (by decide)
            · exact .inr (.inr h)
        exact key hR'
      refine ih rr' (i + 1) ys' (done ++ cs.map fun c => r ++ [c]) _ h' tk' oI₁ oC' m₂' S' hI₁ hd' (hrr'.mono subL) (fun q hq => hr5 q (.tail _ hq)) (subL _ hX) (fun p hp => subL p (hneed p hp)) hC' hR''
        (by simp only [List.length_cons] at hsz; omega) fun nw₂ ys₂ oC₃ m₃ h₅ tk₅ F₅ N₅ off₅ ap₅ hC₅ hR₅ => ?_
      have e : nw₂ ++ (nw ++ (X₂, listOf its.toArray n₂) :: led) = (nw₂ ++ nw ++ [(X₂, listOf its.toArray n₂)]) ++ led := by simp
      rw [e] at N₅ off₅ hR₅
      have ap : ∀ p ∈ nw₂ ++ nw ++ [(X₂, listOf its.toArray n₂)], ∀ q ∈ led, q.1 ≠ p.1 := by
        intro p hp q hq
        rcases List.mem_append.mp hp with hp | hp
        · rcases List.mem_append.mp hp with hp | hp
          · exact ap₅ p hp q (subL q hq)
          · exact (hnw p hp).2.2 q (sub₁ q hq)
        · rw [List.mem_singleton.mp hp]
          exact Nat.ne_of_lt (ll q hq)
      refine k _ ys₂ oC₃ m₃ h₅ tk₅ F₅ N₅ off₅ ap hC₅ ?_
      have e2 : done ++ List.flatMap (fun r => List.map (fun c => r ++ [c]) cs) (r :: rr') = (done ++ List.map (fun c => r ++ [c]) cs) ++ List.flatMap (fun r => List.map (fun c => r ++ [c]) cs) rr' := by
        rw [List.flatMap_cons, List.append_assoc]
      rw [e2]
      exact hR₅
    show codeAny (model prog w) A _ _ _
    exact start1 go (wpAny_pyIter_listiter (l := X₂) (i := 0) ⟨_, g₄, rfl, rfl⟩ go)
end
end Mine
namespace Mine
open PySem.Calls PySem.Spec
section
variable {prog : Program} {w : World} {A : Around} {E : Value → Shared → Prop} {s : Shared} {h₀ : Heap} {L X : Addr} {m : Str → Option Value} {env : Env} {elt i1 i2 : PySem.Expr} {xr xc : Str} {pr pc : Pos} {scope : Scope} {cl : List (Str × Addr)} {pos : Pos}
theorem Assign_lc2 {y : Str} {py spos : Pos} {Q : Flow → Shared → Prop} {led need : List (Addr × Obj)} {xs : List Value} {nX : Nat} {rr : List (List Int)} {cs : List Int} (hLe : env.locals = L)
    (hsw : swapsWith (lc2 elt (.Name xr pr) i1 (.Name xc pc) i2 scope pos) (some (.Name y py)) spos.line env = pure true)
    (hclos : closureFor scope env = pure cl) (hcell : ∀ z ∈ scope.names, z.2 ≠ .cell) (hkind : scope.kind = .function)
    (hnames : ∀ z ∈ scope.names, z.2 = .local → scope.names.lookup z.1 = some .local) (hxr : scope.names.lookup xr = some .local) (hxc : scope.names.lookup xc = some .local) (hne : xr ≠ xc)
    (hy : env.kindOf y = some .local) (hp : (env.scope.kind == .class || (env.scope.kind == .module && env.locals != env.globals)) = false)
    (hs1 : ∀ x, foldedSetIterable i1 env x = pure x) (hs2 : ∀ C x, foldedSetIterable i2 (compEnvC scope cl C env) x = pure x)
    (hh : A.handled = none) (F : Fr h₀ L s.heap m) (N : News h₀ L s.heap led) (hX : (X, listOf xs.toArray nX) ∈ led) (hrr : RowsAre led xs rr) (hr5 : ∀ r ∈ rr, r.length ≤ 5) (hneed : ∀ p ∈ need, p ∈ led) (hcs : cs.length ≤ 2) (hsz : 2 * xs.length ≤ 1000)
    (hI2 : ∀ C, IterOk prog w A h₀ L m (compEnvC scope cl C env) i2 cs need) (hE : ∀ C, EltOk prog w A h₀ L m C (compEnvC scope cl C env) elt xr xc)
    (h1 : ∀ (Q : Value → Shared → Prop) (E : Value → Shared → Prop), Q (.ref X) s → wpAny (model prog w) A (eval i1 env) Q E s)
    (k : ∀ D nw ys h' tk', Fr h₀ L h' (fun z => if z = y then some (.ref D) else m z) → News h₀ L h' ((D, LCg.lst ys) :: (nw ++ led)) → (∀ p ∈ nw ++ led, p.1 ≠ D) → (∀ p ∈ nw, ∀ q ∈ led, q.1 ≠ p.1) → RowsAre (nw ++ led) ys (rr.flatMap fun r => cs.map fun c => r ++ [c]) → Q .next { s with heap := h', toks := tk' }) :
    wpAny (model prog w) A (exec (.Assign [.Name y py] (lc2 elt (.Name xr pr) i1 (.Name xc pc) i2 scope pos) spos) env) Q E s := by
  subst hLe
  rw [exec_Assign_Name_used _ _ _ _ hsw]
  refine wpAny_bind (wpAny_standAt (wpAny_bind ?_))
  show wpAny _ A (do let _ ← comprehension (lc2 elt (.Name xr pr) i1 (.Name xc pc) i2 scope pos) scope env _ (newList []) false (eval i1 env) (some (assign (.Name y py) env))) _ _ s
  refine wpAny_bind (wpAny_mono (wpAny_comprehension_free (use := some (assign (.Name y py) env)) (Q := fun _ s' => Q .next s') rfl hs1 hclos hkind hnames
    (h1 _ _ ?_)) (fun _ s' hq => wpAny_pure (wpAny_pure hq)) fun _ _ e => e)
  have hl : s.heap.IsList X xs.toArray := ⟨_, (N _ hX).1, rfl, nX, rfl⟩
  refine wpAny_pyIter_list hl ?_
  generalize hH1 : s.heap.push { cls := .type "list_iterator", data := .fields #[.ref X, .int 0 0] } = H1
  have g1 : H1.get? s.heap.objs.size = some { cls := .type "list_iterator", data := .fields #[.ref X, .int 0 0] } := hH1 ▸ Heap.get?_push_size _ rfl
  have F1 : Fr h₀ env.locals H1 m := hH1 ▸ F.push _
  have N1 : News h₀ env.locals H1 ((s.heap.objs.size, { cls := .type "list_iterator", data := .fields #[.ref X, .int 0 0] }) :: led) := hH1 ▸ News.push F N _
  refine wpAny_newObj_type (wpAny_newFunctionEnv hcell (by intro y hy; simp at hy) (fun h₁ hns₁ hsb₁ => ?_) hkind)
  dsimp only at hns₁ hsb₁ ⊢
  generalize hH2 : H1.push { cls := .type "list", dict := none, data := .seq ([] : List Value).toArray } = H2 at hns₁ hsb₁ ⊢
  have F2 : Fr h₀ env.locals H2 m := hH2 ▸ F1.push _
  have N2 : News h₀ env.locals H2 ((H1.objs.size, LCg.lst []) :: (s.heap.objs.size, { cls := .type "list_iterator", data := .fields #[.ref X, .int 0 0] }) :: led) := hH2 ▸ News.push F1 N1 _
  have hC : H2.objs.size = H1.objs.size + 1 := by rw [← hH2, Heap.size_push]
  have hD : H1.objs.size = s.heap.objs.size + 1 := by rw [← hH1, Heap.size_push]
  obtain ⟨oC, hoC, hCo⟩ := LCg.ns_obj hns₁
  have ltL : env.locals < s.heap.objs.size := F.ns.lt
  have old : ∀ b o, H2.get? b = some o → h₁.get? b = some o := fun b o e => hsb₁.extBut b o (fun q => absurd (Heap.lt_size e) (by rw [q]; exact Nat.lt_irrefl _)) (Heap.get?_push_of_some _ e)
  have fresh0 : ∀ a, s.heap.objs.size ≤ a → h₀.get? a = none := fun a ha => by
    cases e : h₀.get? a with
    | none => rfl
    | some o' => exact absurd (Heap.lt_size (F.keep a o' e)) (Nat.not_lt.mpr ha)
  have F3 : Fr h₀ env.locals h₁ m := F2.keeps old
  have N3 : News h₀ env.locals h₁ ((s.heap.objs.size, { cls := .type "list_iterator", data := .fields #[.ref X, .int 0 0] }) :: (H2.objs.size, oC) :: (H1.objs.size, LCg.lst []) :: led) := by
    intro p hp
    rcases List.mem_cons.mp hp with rfl | hp
    · have z := N2 _ (.tail _ (.head _))
      exact ⟨old _ _ z.1, z.2⟩
    · rcases List.mem_cons.mp hp with rfl | hp
      · refine ⟨hoC, ?_, fresh0 _ (by rw [hC, hD]; omega)⟩
        show H2.objs.size ≠ env.locals
        rw [hC, hD]
        exact Nat.ne_of_gt (Nat.lt_succ_of_lt (Nat.lt_succ_of_lt ltL))
      · rcases List.mem_cons.mp hp with rfl | hp
        · have z := N2 _ (.head _)
          exact ⟨old _ _ z.1, z.2⟩
        · have z := N2 _ (.tail _ (.tail _ hp))
          exact ⟨old _ _ z.1, z.2⟩
  have lt : ∀ p ∈ led, p.1 < s.heap.objs.size := fun p hp => Heap.lt_size (N p hp).1
  have S : CSt h₀ env.locals m h₁ s.heap.objs.size { cls := .type "list_iterator", data := .fields #[.ref X, .int 0 0] } H2.objs.size oC H1.objs.size [] led := by
    refine ⟨F3, N3, fun p hp => ?_, ?_, ?_, ?_⟩
    · have := lt p hp
      exact ⟨Nat.ne_of_lt this, by rw [hC, hD]; exact Nat.ne_of_lt (Nat.lt_succ_of_lt (Nat.lt_succ_of_lt this)), by rw [hD]; exact Nat.ne_of_lt (Nat.lt_succ_of_lt this)⟩
    · rw [hC, hD]; exact Nat.ne_of_lt (Nat.lt_succ_of_lt (Nat.lt_succ_self _))
    · rw [hD]; exact Nat.ne_of_lt (Nat.lt_succ_self _)
    · rw [hC]; exact Nat.ne_of_gt (Nat.lt_succ_self _)
  have loop : codeAny (model prog w) A (.compLoop (lc2 elt (.Name xr pr) i1 (.Name xc pc) i2 scope pos) 0 (.ref s.heap.objs.size) (.ref H1.objs.size) (compEnvC scope cl H2.objs.size env))
      (compPost (model prog w) A E (some (assign (.Name y py) env)) (fun _ s' => Q .next s') (.ref H1.objs.size) H2.objs.size) { s with heap := h₁, toks := s.toks + ([] : List (Str × Value)).length } := by
    refine outer (s := s) hh (hI2 _) (hE _) hkind hxr hxc hne hcs (hs2 _) xs rr 0 [] [] led h₁ _ _ oC _ S ⟨rfl, rfl⟩ rfl hrr hr5 hX hneed hCo .nil (by simpa using hsz) fun nw ys' oC' m₂' h' tk' F' N' off' ap' hC' hR' => ?_
    show wpAny _ A (assign (.Name y py) env (.ref H1.objs.size)) _ _ _
    have zC := N' _ (.head _)
    have zD := N' _ (.tail _ (.head _))
    refine wpAny_assign_Name (wpAny_storeName_local hy F'.ns (fun h₂ hn₂ hs₂ => ?_) hp)
    have hL₀ : h₀.get? env.locals = none := Heap.get?_none_of_le F'.above
    have F₂ : Fr h₀ env.locals h₂ (fun z => if z = y then some (.ref H1.objs.size) else m z) := ⟨hn₂, fun b o e => hs₂.extBut b o (fun q => by rw [q, hL₀] at e; cases e) (F'.keep b o e), F'.above⟩
    have N₂ := N'.set hs₂
    refine ⟨m₂', hC'.ns (N₂ _ (.head _)).1, fun h'' hs'' => ?_⟩
    have e : ([] : List (List Int)) ++ List.flatMap (fun r => List.map (fun c => r ++ [c]) cs) rr = List.flatMap (fun r => List.map (fun c => r ++ [c]) cs) rr := List.nil_append _
    rw [e] at hR'
    refine k H1.objs.size nw ys' h'' _ (F₂.change hs'' zC.2.1 zC.2.2) (fun p hp => ?_) (fun p hp => (off' p hp).2) ap' hR'
    have z := N₂ p (.tail _ hp)
    refine ⟨hs''.extBut _ _ ?_ z.1, z.2⟩
    rcases List.mem_cons.mp hp with rfl | hp
    · exact S.CD.symm
    · exact (off' p hp).1
  exact codeAny_compStart_list loop (wpAny_pyIter_listiter (l := X) (i := 0) ⟨_, S.gI, rfl, rfl⟩ loop)
end
end Mine
namespace Mine
open PySem.Calls PySem.Spec
section
variable {prog : Program} {w : World} {A : Around} {E : Value → Shared → Prop} {s : Shared} {env : Env} {h₀ : Heap}
/-- a for over a list of ints of the ledger, whatever its target: the ledger may grow and turn -/
theorem iterT {target : PySem.Expr} {body : List Stmt} {Q : Flow → Shared → Prop} {l : Addr} {vs : List Value} {ns : List Int} {nn : Nat} {m₀ : Str → Option Value} {news : List (Addr × Obj)} (J : Nat → (Str → Option Value) → List (Addr × Obj) → Prop)
    (hh : A.handled = none) (hl : ∀ i m nx, J i m nx → (l, listOf vs.toArray nn) ∈ nx) (hi : IntsAre vs ns) (F : Fr h₀ env.locals s.heap m₀) (N : News h₀ env.locals s.heap news) (hj : J 0 m₀ news)
    (turn : ∀ i n t m₁ news₁ s₁ I oI, ns[i]? = some n → J i m₁ news₁ → Fr h₀ env.locals s₁.heap m₁ → (∀ p ∈ news₁, p.1 ≠ I) → oI.cls = .type "list_iterator" → News h₀ env.locals s₁.heap ((I, oI) :: news₁) →
      wpAny (model prog w) A (assign target env (.int n t)) (fun _ s₃ => wpAny (model prog w) A (execs body env) (fun f s₄ => f = .next ∧ ∃ h' tk' m₂ news₂, s₄ = { s₁ with heap := h', toks := tk' } ∧ Fr h₀ env.locals h' m₂ ∧ News h₀ env.locals h' ((I, oI) :: news₂) ∧ (∀ p ∈ news₂, p.1 ≠ I) ∧ J (i + 1) m₂ news₂) E s₃) E s₁)
    (done : ∀ m₁ news₁ h tk, J ns.length m₁ news₁ → Fr h₀ env.locals h m₁ → News h₀ env.locals h news₁ → Q .next { s with heap := h, toks := tk }) :
    wpAny (model prog w) A (pyIter (.ref l)) (fun it s₂ => LoopAtT prog w A h₀ env target body Q E it s₂) E s := by
  have hln := hl _ _ _ hj
  have hol : s.heap.get? l = some (listOf vs.toArray nn) := (N _ hln).1
  have hls : s.heap.IsList l vs.toArray := ⟨_, hol, rfl, nn, rfl⟩
  have hne : l ≠ s.heap.objs.size := Nat.ne_of_lt (Heap.lt_size hol)
  refine wpAny_pyIter_list hls ?_
  have W := Walks.list (prog := prog) (w := w) hh s.heap.objs.size l hne vs.toArray
  have hlen : vs.toArray.size = ns.length := by simp [hi.length]
  rw [hlen] at W
  refine ⟨_, _, _, ns.length, _, _, m₀, news, J, rfl, W, ?_, ?_, ?_, ⟨⟨_, Heap.get?_push_size _ rfl, rfl, rfl⟩, hls.at fun o e => Heap.get?_push_of_some _ e⟩, F.push _, (fun p hp => ⟨Heap.get?_push_of_some _ (N p hp).1, (N p hp).2⟩), (fun i s' v Q' st hQ' => letGo_listiter st.1 hQ'), hj, ?_, ?_⟩
  · intro hm
    rcases List.mem_cons.mp hm with e | hm
    · exact absurd F.ns.lt (e ▸ Nat.lt_irrefl _)
    · exact (N _ hln).2.1 ((List.mem_singleton.mp hm).symm)
  · intro b hb
    rw [List.mem_singleton.mp hb]
    exact next_is_new F
  · intro p hp hI
    exact absurd (Heap.lt_size (N p hp).1) ((List.mem_singleton.mp hI) ▸ Nat.lt_irrefl _)
  · rintro i v m₁ news₁ s₁ own hin hP hJ hoff hown hget hfp hst F₁ N₁
    have hlt' : i < ns.length := hin
    obtain ⟨t, hx⟩ := hi.get i ns[i] (by simp [hlt'])
    have hv : v = .int ns[i] t := by
      have hP' : vs[i]? = some v := by simpa using hP
      rw [hx] at hP'; exact (Option.some.inj hP').symm
    subst hv
    obtain ⟨oI, hoI, hcls, _⟩ := hst.1
    have hoff' : ∀ p ∈ news₁, p.1 ≠ s.heap.objs.size := fun p hp e => hoff p hp (by rw [e]; exact .head _)
    have hIown : (s.heap.objs.size, oI) ∈ own := hfp _ (.head _) (next_is_new F) _ hoI
    have hl₁ := hl _ _ _ hJ
    have N₂ : News h₀ env.locals s₁.heap ((s.heap.objs.size, oI) :: news₁) := fun p hp => by
      rcases List.mem_cons.mp hp with rfl | hp
      · exact N₁ _ (List.mem_append_left _ hIown)
      · exact N₁ _ (List.mem_append_right _ hp)
    have hlo : s₁.heap.get? l = some (listOf vs.toArray nn) := (N₂ _ (.tail _ hl₁)).1
    refine wpAny_mono (turn i ns[i] t m₁ news₁ s₁ s.heap.objs.size oI (by simp [hlt']) hJ F₁ hoff' hcls N₂) (fun _ s₃ p => wpAny_mono p (fun f s₄ q => ?_) fun _ _ e => e) fun _ _ e => e
    obtain ⟨rfl, h', tk', m₂, news₂, rfl, F', N', off', hJ'⟩ := q
    refine ⟨rfl, h', tk', m₂, news₂, rfl, F', fun p hp => ?_, fun p hp hI => off' p hp (List.mem_singleton.mp hI), hJ'⟩
    rcases List.mem_append.mp hp with hp | hp
    · rcases List.mem_cons.mp (hown p hp) with e | e
      · have g := hget p hp
        rw [e, hoI] at g
        have : p = (s.heap.objs.size, oI) := Prod.ext e (Option.some.inj g).symm
        rw [this]
        exact N' _ (.head _)
      · have e' := List.mem_singleton.mp e
        have g := hget p hp
        rw [e', hlo] at g
        have : p = (l, listOf vs.toArray nn) := Prod.ext e' (Option.some.inj g).symm
        rw [this]
        exact N' _ (.tail _ (hl _ _ _ hJ'))
    · exact N' p (.tail _ hp)
  · rintro h' tk m' news' F' N' _ hJ
    exact done m' news' h' tk hJ F' N'
end
end Mine
namespace Mine
local macro_rules | `(tactic| walk_at $s:str) => `(tactic| k_extra $s)
def choices (b : Int) : List Int := if b < 2 then [b] else [0, 1]
def stepV (rows : List (List Int)) (b : Int) : List (List Int) := rows.flatMap fun r => (choices b).map fun c => r ++ [c]
def rowsV (bits : List Int) : List (List Int) := bits.foldl stepV [[]]
theorem rowsV_take {ns : List Int} {i : Nat} {n : Int} (h : ns[i]? = some n) : rowsV (ns.take (i + 1)) = stepV (rowsV (ns.take i)) n := by
  unfold rowsV
  rw [List.take_add_one, h]
  simp
theorem choices_len (b : Int) : (choices b).length ≤ 2 := by unfold choices; split <;> simp
theorem stepV_len (rows : List (List Int)) (b : Int) : (stepV rows b).length ≤ 2 * rows.length := by
  unfold stepV
  induction rows with
  | nil => simp
  | cons r rs ih =>
    rw [List.flatMap_cons, List.length_append, List.length_map, List.length_cons]
    have := choices_len b
    omega
theorem rows_fold_len (bits : List Int) : ∀ rows : List (List Int), (bits.foldl stepV rows).length ≤ 2 ^ bits.length * rows.length := by
  induction bits with
  | nil => intro rows; simp
  | cons b r ih =>
    intro rows
    rw [List.foldl_cons, List.length_cons]
    refine Nat.le_trans (ih _) (Nat.le_trans (Nat.mul_le_mul_left _ (stepV_len rows b)) ?_)
    rw [Nat.pow_succ, Nat.mul_assoc]
    exact Nat.le_refl _
theorem rows_fold_row (bits : List Int) : ∀ (rows : List (List Int)) (k : Nat), (∀ r ∈ rows, r.length = k) → ∀ r ∈ bits.foldl stepV rows, r.length = k + bits.length := by
  induction bits with
  | nil => intro rows k h r hr; simpa using h r hr
  | cons b q ih =>
    intro rows k h r hr
    rw [List.foldl_cons] at hr
    have := ih (stepV rows b) (k + 1) (fun x hx => by
      unfold stepV at hx
      obtain ⟨y, hy, hx⟩ := List.mem_flatMap.mp hx
      obtain ⟨c, _, rfl⟩ := List.mem_map.mp hx
      rw [List.length_append, h y hy]; rfl) r hr
    rw [this, List.length_cons]
    omega
theorem rowsV_row (bits : List Int) : ∀ r ∈ rowsV bits, r.length = bits.length := fun r hr => by
  have := rows_fold_row bits [[]] 0 (by simp) r hr
  omega
theorem rowsV_len (bits : List Int) (h : bits.length ≤ 5) : (rowsV bits).length ≤ 32 := by
  refine Nat.le_trans (rows_fold_len bits [[]]) ?_
  have : 2 ^ bits.length ≤ 2 ^ 5 := Nat.pow_le_pow_right (by decide) h
  simpa using this
/-- between the turns of _law_rows: the cell of `bit` apart, `rows` holds the list of the rows so far -/
def JRows (cell : Addr) (lo : Addr × Obj) (keep : List (Addr × Obj)) (ns : List Int) (m₀ : Str → Option Value) (i : Nat) (m : Str → Option Value) (nx : List (Addr × Obj)) : Prop :=
  ∃ b us n oB v nx', nx = (cell, oB) :: nx' ∧ oB.data = .cell v ∧ (∀ p ∈ nx', p.1 ≠ cell) ∧ m = (fun y => if y = Str.ofString "rows" then some (.ref b) else m₀ y) ∧ (b, listOf us.toArray n) ∈ nx' ∧ lo ∈ nx' ∧ (∀ p ∈ keep, p ∈ nx') ∧ RowsAre nx' us (rowsV (ns.take i))
theorem JRows.lo {cell : Addr} {lo : Addr × Obj} {keep : List (Addr × Obj)} {ns : List Int} {m₀ m : Str → Option Value} {i : Nat} {nx : List (Addr × Obj)} (h : JRows cell lo keep ns m₀ i m nx) : lo ∈ nx := by
  obtain ⟨b, us, n, oB, v, nx', rfl, _, _, _, _, hl, _⟩ := h
  exact .tail _ hl
theorem JRows.start {cell b e : Addr} {oB : Obj} {v : Option Value} {lo : Addr × Obj} {keep : List (Addr × Obj)} {ns : List Int} {m₀ : Str → Option Value} {n n' : Nat} (hd : oB.data = .cell v) (hl : lo ∈ keep) (hk : ∀ p ∈ keep, p.1 < cell) (hb : cell < b) (he : cell < e) :
    JRows cell lo keep ns m₀ 0 (fun y => if y = Str.ofString "rows" then some (.ref b) else m₀ y) ((cell, oB) :: (b, listOf [Value.ref e].toArray n) :: (e, listOf ([] : List Value).toArray n') :: keep) := by
  refine ⟨b, [.ref e], n, oB, v, _, rfl, hd, fun p hp => ?_, rfl, .head _, .tail _ (.tail _ hl), fun p hp => .tail _ (.tail _ hp), ?_⟩
  · rcases List.mem_cons.mp hp with rfl | hp
    · exact Nat.ne_of_gt hb
    · rcases List.mem_cons.mp hp with rfl | hp
      · exact Nat.ne_of_gt he
      · exact Nat.ne_of_lt (hk p hp)
  · exact .cons ⟨e, [], n', rfl, .tail _ (.head _), .nil⟩ .nil
theorem swap3 {a b c : Addr × Obj} {l : List (Addr × Obj)} : ∀ p ∈ c :: a :: b :: l, p ∈ a :: b :: ([c] ++ l) := by
  intro p hp
  simp only [List.mem_cons, List.mem_append, List.not_mem_nil, or_false] at hp ⊢
  rcases hp with h | h | h | h
  · exact .inr (.inr (.inl h))
  · exact .inl h
  · exact .inr (.inl h)
  · exact .inr (.inr (.inr h))
/-- a list of lists comes back: the rows rs; what stood in the ledger stands -/
def isRows (news : List (Addr × Obj)) (rs : List (List Int)) : Value → List (Addr × Obj) → Prop :=
  fun v news' => ∃ b us k, v = .ref b ∧ (b, listOf us.toArray k) ∈ news' ∧ RowsAre news' us rs ∧ ∀ p ∈ news, p ∈ news'
theorem need1 {a q : Addr × Obj} {l : List (Addr × Obj)} : ∀ p ∈ [q], p ∈ a :: q :: l := fun p hp => by
  rw [List.mem_singleton.mp hp]; exact .tail _ (.head _)
theorem rows_but {nw nx : List (Addr × Obj)} {I c D : Addr} {oI oC oD : Obj} {v : Option Value} (hI : oI.cls = .type "list_iterator") (hC : oC.data = .cell v) {ys : List Value} {rs : List (List Int)} (h : RowsAre (nw ++ (I, oI) :: (c, oC) :: nx) ys rs) :
    RowsAre ((D, oD) :: (nw ++ nx)) ys rs := by
  induction h with
  | nil => exact .nil
  | cons x _ ih =>
    refine .cons ?_ ih
    obtain ⟨a, us, n, e, hm, hi⟩ := x
    refine ⟨a, us, n, e, ?_, hi⟩
    simp only [List.mem_append, List.mem_cons] at hm ⊢
    rcases hm with h | h | h | h
    · exact .inr (.inl h)
    · have e := (congrArg (fun p : Addr × Obj => p.2.cls) h).trans hI
      exact absurd (Value.type.inj e) (by decide)
    · have e := (congrArg (fun p : Addr × Obj => p.2.data) h).trans hC
      cases e
    · exact .inr (.inr h)
theorem skip2 {a b : Addr × Obj} {l : List (Addr × Obj)} : ∀ p ∈ a :: l, p ∈ a :: b :: l := fun p hp => by
  rcases List.mem_cons.mp hp with rfl | hp
  · exact .head _
  · exact .tail _ (.tail _ hp)
theorem rows_ct (news : List (Addr × Obj)) (l : Addr) (vs : List Value) (nn : Nat) (ns : List Int) (hl : (l, listOf vs.toArray nn) ∈ news) (hi : IntsAre vs ns) (hlen : ns.length ≤ 5) :
    Ct 1 150 [.ref l] news (isRows news (rowsV ns)) := by
  unfold Ct
  w_top off
  k_fill
  k_with_none
  k_with "mine enterC" => (refine' code_defC ?k1 ?k2 ?k3 ?k4 ?k5 ?kA ?kF ?kK ?k6 ?k7 ?k8 ?k9 ?kB ?kD ?_ ?c2 ?c3 ?c4; (case kA => exact rfl); (case kF => exact rfl); (case kK => first | exact rfl | assumption); (case k1 => k_asm); (case k2 => k_asm); (case k3 => k_asm); (case k4 => k_asm); (case k5 => k_asm); (case k6 => k_is); (case k7 => k_is); (case k8 => ktr_room); (case k9 => exact BindsTo.of_eq rfl); (case kB => exact rfl); (case kD => decide +kernel); (case c2 => exact rfl); (case c3 => exact rfl); (case c4 => exact rfl); k_whole; intro g' L' h' tk' cells' FG' F' N' Y' B' X' T' l1; k_cells Y'; (try dsimp only))
  k_with "mine step" => (first | (k_unfold; (try dsimp only)) | (k_end; wrow_close) | walk1 | (dsimp only; walk1) | (leave1; walk_say "STEP leave1"; try dsimp only))
  k_with "eval Name" => (k_here; (with_reducible show wpAny _ _ (eval (Expr.Name _ _) (compEnvC _ _ _ _)) _ _ _); k_dflt (refine kcf_cell (by k_asm) rfl (by assumption) (by assumption) ?_))
  intro w mean mg mb dp un gd cn cs a ccd cl outer A₀ base h₀ L m s Q E B F X N T hk hdp hun hret
  refine wpAny_call ?_
  k_dflt (walk_at "mine enterC")
  iterate 12 (walk_at "mine step")
  (rename Fr _ _ _ _ => lF')
  (with_unfolding_all refine For_invTF lF' ?_ (fun _ => rfl))
  walk_at "mine step"
  (rename News _ _ _ _ => lN')
  (rename (_ < _ ∧ _) => l3)
  (rename (Obj.data _ = _) => d3)
  (with_unfolding_all refine iterT (JRows _ (l, listOf vs.toArray nn) news ns _) rfl (fun i m nx h => JRows.lo h) hi lF' (kst_newsOf lN' swap3) (JRows.start d3 hl ?_ ?_ ?_) ?_ ?_)
  · exact fun p hp => Nat.lt_succ_of_lt ((by assumption : ∀ p ∈ news, p.1 < _) p hp)
  · exact l3.2.1
  · exact (by assumption : ∀ p ∈ [_] ++ news, p.1 < _) _ (.head _)
  · rintro i n t m₁ nx s₁ I oI hn ⟨b, us, k, oB, v, nx', rfl, hd, hoff, rfl, hb, hlo, hkeep, hR⟩ F₁ hI hcls N₁
    have hIc := hI _ (.head _)
    with_unfolding_all refine wpAny_assign_Name (storeX_C F₁ N₁ rfl (.tail (Ne.symm hIc) (.head hoff)) hd (fun h₂ o₂ F₂ N₂ d₂ => ?_))
    refine wpAny_execs_cons ?_
    have hlb : (rowsV (ns.take i)).length ≤ 32 := rowsV_len _ (by rw [List.length_take]; omega)
    have hlu : us.length = (rowsV (ns.take i)).length := PySem.Paired.length hR
    have hrow : ∀ r ∈ rowsV (ns.take i), r.length ≤ 5 := fun r hr => by rw [rowsV_row _ r hr, List.length_take]; omega
    (with_unfolding_all refine' Assign_lc2 (cl := [(Str.ofString "bit", _)]) (cs := choices n) (need := [_]) rfl ?hsw ?hclos ?hcell rfl ?hnames rfl rfl ?hne rfl rfl (fun _ => rfl) (fun _ _ => rfl) rfl F₂ N₂ (.tail _ (.tail _ hb)) (hR.mono fun p hp => .tail _ (.tail _ hp)) hrow ?hneed (choices_len n) (by omega) ?hI2 ?hE ?h1 ?k)
    (case hsw => with_unfolding_all rfl)
    (case hclos => with_unfolding_all rfl)
    (case hcell => decide)
    (case hnames => decide)
    (case hne => decide)
    (case hneed => exact need1)
    (case h1 => intro Q E q; with_unfolding_all exact nameX_L F₂ rfl q rfl rfl)
    (case k =>
      rintro D nw ys h' tk' F' N' off ap hR'
      refine wpAny_execs_nil ⟨rfl, h', tk', _, (_, o₂) :: (D, LCg.lst ys) :: (nw ++ nx'), rfl, F', ?_, ?_, D, ys, _, o₂, _, _, rfl, d₂, ?_, ?_, .head _, ?_, ?_, ?_⟩
      · refine kst_newsOf N' fun p hp => ?_
        simp only [List.mem_cons, List.mem_append] at hp ⊢
        rcases hp with h | h | h | h | h
        · exact .inr (.inr (.inl h))
        · exact .inr (.inr (.inr (.inl h)))
        · exact .inl h
        · exact .inr (.inl h)
        · exact .inr (.inr (.inr (.inr h)))
      · intro p hp
        rcases List.mem_cons.mp hp with rfl | hp
        · exact hIc
        · rcases List.mem_cons.mp hp with rfl | hp
          · exact (off (I, oI) (List.mem_append_right _ (.head _))).symm
          · rcases List.mem_append.mp hp with hp | hp
            · exact (ap p hp (I, oI) (.head _)).symm
            · exact hI p (.tail _ hp)
      · intro p hp
        rcases List.mem_cons.mp hp with rfl | hp
        · exact (off (_, o₂) (List.mem_append_right _ (.tail _ (.head _)))).symm
        · rcases List.mem_append.mp hp with hp | hp
          · exact (ap p hp (_, o₂) (.tail _ (.head _))).symm
          · exact hoff p hp
      · funext z
        by_cases hz : z = Str.ofString "rows"
        · simp only [if_pos hz]
        · simp only [if_neg hz]
      · exact .tail _ (List.mem_append_right _ hlo)
      · exact fun p hp => .tail _ (List.mem_append_right _ (hkeep p hp))
      · rw [rowsV_take hn]
        exact rows_but hcls d₂ hR')
    (case hI2 =>
      intro C s₂ all Q₂ E₂ F₃ N₃ hn₃ kk
      have hc := hn₃ _ (.head _)
      by_cases hlt : n < 2
      · have e : choices n = [n] := if_pos hlt
        rw [e] at kk
        k_steps
        exact kk _ _ _ _ _ (by assumption) (by assumption) (by assumption) (.cons _ _ .nil)
      · have e : choices n = [0, 1] := if_neg hlt
        rw [e] at kk
        k_steps
        exact kk _ _ _ _ _ (by assumption) (by assumption) (by assumption) (.cons _ _ (.cons _ _ .nil)))
    (case hE =>
      intro C s₂ all oC m₂ a₂ us₂ n₂ r c₂ t₂ Q₂ E₂ F₃ N₃ hC₃ hNs hmr hmc hA hu hr kk
      k_steps
      (rename Fr _ _ _ _ => F9)
      (rename News _ _ _ _ => N9)
      refine add_arrays_ints F9 N9 (News.isList N9 (.tail _ hA)) (News.isList N9 (.head _)) hu (.cons _ _ .nil) (fun h₅ F₅ N₅ hi₅ => ?_) ?_
      · exact kk _ _ _ _ _ F₅ (kst_newsOf N₅ skip2) (fun p hp => Heap.lt_size (N9 p (.tail _ hp)).1) hi₅
      · rw [PySem.sizeLine_eq]; simp only [List.length_cons, List.length_nil]; omega)
  · rintro m₁ nx h₁ tk₁ ⟨b, us, k, oB, v, nx', rfl, hd, hoff, rfl, hb, hlo, hkeep, hR⟩ F₁ N₁
    rw [List.take_length] at hR
    dsimp only
    k_steps
    exact hret _ nx' _ _ ⟨b, us, k, rfl, hb, hR, hkeep⟩ (by assumption) (kst_newsOf (by assumption) fun p hp => .tail _ hp)
end Mine
namespace Mine
local macro_rules | `(tactic| walk_at $s:str) => `(tactic| k_extra $s)
def codeV (kind : String) (ns : List Int) : Int :=
  let fs := (rowsV ns).map (logicV kind)
  if fs.count (fs.getD 0 0) = fs.length then fs.getD 0 0 else 3
theorem logic_in {kind : String} (hz : kindL kind ∨ kind1 kind) {news : List (Addr × Obj)} {l : Addr} {us : List Value} {nn : Nat} {r : List Int} {tk : Tok} (hl : (l, listOf us.toArray nn) ∈ news) (hi : IntsAre us r) (hr : r ≠ []) (hlen : r.length ≤ 5) :
    Ct 1 157 [.str (Str.ofString kind) tk, .ref l] news (isInt news (logicV kind r)) := by
  cases hi with
  | nil => exact absurd rfl hr
  | cons c t hi => exact Ct.memInt hl (logic_ct kind hz news l c t _ nn _ tk (.cons c t hi) hlen)
theorem Ct.useRows {d : Nat} {f : Addr} {vs : List Value} {news : List (Addr × Obj)} {rs : List (List Int)} {w : World} {mean : ExcName → Option Value} {mg mb : Str → Option Value} {dp un : Nat} {gd : Option (List Code)} {cn : Str} {cs : Scope} {a : Addr} {ccd : Value} {cl : List (Str × Addr)} {outer : List Env}
    {A₀ : Around} {base h₀ : Heap} {L : Addr} {m : Str → Option Value} {s : Shared} {Q E : Value → Shared → Prop}
    (B : Below A₀ base outer h₀) (F : Fr h₀ L s.heap m) (X : (hd.heap_39 w.params).In h₀) (N : News h₀ L s.heap news)
    (T : Top hd.view_39 (looseW hd.view_39 [Str.ofString "GateloomError"]) mean mg mb h₀) (hk : cs.kind = .function) (hdp : dp + d < recursionLimit) (hun : un + 100 * d < cLine) (C : Ct d f vs news (isRows news rs))
    (ret : ∀ b us k nx h' tk', (b, listOf us.toArray k) ∈ nx → RowsAre nx us rs → (∀ p ∈ news, p ∈ nx) → Fr h₀ L h' m → News h₀ L h' nx → Q (.ref b) { s with heap := h', toks := tk' }) :
    wpAny (model PySem.Challenge.rw_nn0296_01.row.prog w) (ktrTop dp un gd cn cs L a ccd cl outer) (call (.ref f) vs) Q E s := by
  refine C w mean mg mb dp un gd cn cs a ccd cl outer A₀ base h₀ L m s Q E B F X N T hk hdp hun ?_
  rintro v news' h' tk' ⟨b, us, k, rfl, hb, hR, hs⟩ F' N'
  exact ret b us k news' h' tk' hb hR hs F' N'
section
variable {prog : Program} {w : World} {A : Around} {h₀ : Heap} {L : Addr} {m : Str → Option Value} {env : Env} {elt : PySem.Expr} {x : Str} {scope : Scope} {cl : List (Str × Addr)} {f : List Int → Int} {rs : List (List Int)} {need : List (Addr × Obj)}
/-- the element is an int that hangs on the row alone -/
def RowFn (prog : Program) (w : World) (A : Around) (h₀ : Heap) (L : Addr) (m : Str → Option Value) (env : Env) (elt : PySem.Expr) (x : Str) (scope : Scope) (cl : List (Str × Addr)) (f : List Int → Int) (rs : List (List Int)) (need : List (Addr × Obj)) : Prop :=
  ∀ (s : Shared) (all : List (Addr × Obj)) (C : Addr) (oC : Obj) (m₂ : Str → Option Value) (a : Addr) (us : List Value) (n : Nat) (r : List Int) (Q E : Value → Shared → Prop),
    Fr h₀ L s.heap m → News h₀ L s.heap all → (C, oC) ∈ all → LCg.NsObj oC m₂ → m₂ x = some (.ref a) → (a, listOf us.toArray n) ∈ all → IntsAre us r → r ∈ rs → (∀ p ∈ need, p ∈ all) →
    (∀ t h' tk', Fr h₀ L h' m → News h₀ L h' all → Q (.int (f r) t) { s with heap := h', toks := tk' }) → wpAny (model prog w) A (eval elt (compEnvC scope cl C env)) Q E s
theorem comp_rows (hE : RowFn prog w A h₀ L m env elt x scope cl f rs need) {s : Shared} {ax : Addr} {xs : List Value} {nx : List (Addr × Obj)} {Fin : List Value → List (Addr × Obj) → Prop} (hneed : ∀ p ∈ need, p ∈ nx) (hS : LCg.SrcAt h₀ ax xs.toArray nx) :
    ∀ (rem : List Value) (rr done : List (List Int)) (i : Nat) (ys : List Value), xs.drop i = rem → RowsAre nx rem rr → (∀ r ∈ rr, r ∈ rs) → IntsAre ys (done.map f) → (∀ ys', IntsAre ys' ((done ++ rr).map f) → Fin ys' nx) →
      LCg.CompRest prog w A h₀ L m env elt x scope cl s (LCg.SrcAt h₀ ax xs.toArray) (fun i v => xs.toArray[i]? = some v) Fin rem.length i ys nx := by
  intro rem
  induction rem with
  | nil =>
    intro rr done i ys hd hR hrs hy hf
    cases hR
    exact hf ys (by simpa using hy)
  | cons v rem ih =>
    intro rr done i ys hd hR hrs hy hf
    obtain ⟨r, rr', rfl, hrow, hrr⟩ : ∃ r rr', rr = r :: rr' ∧ RowAt nx v r ∧ RowsAre nx rem rr' := by
      cases hR with
      | cons a b => exact ⟨_, _, rfl, a, b⟩
    obtain ⟨a, us, n, rfl, hA, hu⟩ := hrow
    have hj : xs[i]? = some (.ref a) := by
      have e := congrArg (·[0]?) hd
      simpa using e
    have hd' : xs.drop (i + 1) = rem := by
      have e := congrArg List.tail hd
      simpa [List.tail_drop] using e
    refine LCg.CompRest.succ fun v I oI C oC D m₂ h tk E' hv hC hx F N off ne => ?_
    have hv' : v = .ref a := by
      have : xs[i]? = some v := by simpa using hv
      rw [hj] at this
      exact (Option.some.inj this).symm
    subst hv'
    refine hE { s with heap := h, toks := tk } _ C oC m₂ a us n r _ _ F N (.tail _ (.head _)) hC hx (.tail _ (.tail _ (.tail _ hA))) hu (hrs r (.head _)) (fun p hp => .tail _ (.tail _ (.tail _ (hneed p hp)))) fun t h' tk' F' N' => ?_
    refine LCg.CompEnd.intro F' N' nx (fun _ hp => hp) off hS ?_
    refine ih rr' (done ++ [r]) (i + 1) (ys ++ [.int (f r) t]) hd' hrr (fun q hq => hrs q (.tail _ hq)) ?_ fun ys' hy' => hf ys' (by simpa using hy')
    rw [List.map_append]
    exact IntsAre.append hy (.cons _ _ .nil)
end
theorem cell_eq {o : Obj} {a b : Option Value} (h : o.data = .cell a) (e : a = b) : o.data = .cell b := by rw [h, e]
theorem code_yes {x : Int} {fs : List Int} (hcv : x = if fs.count (fs.getD 0 0) = fs.length then fs.getD 0 0 else 3) (h : ((fs.count (fs.getD (Int.toNat 0) 0) : Nat) : Int) = ((fs.length : Nat) : Int)) : fs.getD (Int.toNat 0) 0 = x := by
  have h' : fs.count (fs.getD 0 0) = fs.length := Int.ofNat.inj h
  rw [hcv, if_pos h']; rfl
theorem code_no {x : Int} {fs : List Int} (hcv : x = if fs.count (fs.getD 0 0) = fs.length then fs.getD 0 0 else 3) (h : ((fs.count (fs.getD (Int.toNat 0) 0) : Nat) : Int) ≠ ((fs.length : Nat) : Int)) : 3 = x := by
  have h' : ¬ fs.count (fs.getD 0 0) = fs.length := fun e => h (congrArg Int.ofNat e)
  rw [hcv, if_neg h']
theorem keep_in {q d : Addr × Obj} {l l' : List (Addr × Obj)} (h : ∀ p ∈ [q] ++ l, p ∈ l') : ∀ p ∈ l, p ∈ d :: l' := fun p hp => .tail _ (h p (List.mem_append_right _ hp))
theorem need_of {q : Addr × Obj} {l l' : List (Addr × Obj)} (h : ∀ p ∈ [q] ++ l, p ∈ l') : ∀ p ∈ [q], p ∈ l' := fun p hp => h p (List.mem_append_left _ hp)
theorem keep_of {q : Addr × Obj} {l l' : List (Addr × Obj)} (h : ∀ p ∈ [q] ++ l, p ∈ l') : ∀ p ∈ l, p ∈ l' := fun p hp => h p (List.mem_append_right _ hp)
theorem stepV_ne {rows : List (List Int)} (b : Int) (h : rows ≠ []) : stepV rows b ≠ [] := by
  cases rows with
  | nil => exact absurd rfl h
  | cons r q =>
    unfold stepV choices
    rw [List.flatMap_cons]
    split <;> simp
theorem rowsV_ne (bits : List Int) : rowsV bits ≠ [] := by
  have : ∀ (bits : List Int) (rows : List (List Int)), rows ≠ [] → bits.foldl stepV rows ≠ [] := by
    intro bits
    induction bits with
    | nil => intro rows h; exact h
    | cons b r ih => intro rows h; exact ih _ (stepV_ne b h)
  exact this bits [[]] (by simp)
theorem code_ct (kind : String) (hz : kindL kind ∨ kind1 kind) (news : List (Addr × Obj)) (l : Addr) (vs : List Value) (nn : Nat) (ns : List Int) (tk : Tok) (hl : (l, listOf vs.toArray nn) ∈ news) (hi : IntsAre vs ns) (hne : ns ≠ []) (hlen : ns.length ≤ 5) :
    Ct 2 162 [.str (Str.ofString kind) tk, .ref l] news (isInt news (codeV kind ns)) := by
  unfold Ct
  w_top off
  k_fill
  k_with_none
  k_with "mine enterC" => (refine' code_defC ?k1 ?k2 ?k3 ?k4 ?k5 ?kA ?kF ?kK ?k6 ?k7 ?k8 ?k9 ?kB ?kD ?_ ?c2 ?c3 ?c4; (case kA => exact rfl); (case kF => exact rfl); (case kK => first | exact rfl | assumption); (case k1 => k_asm); (case k2 => k_asm); (case k3 => k_asm); (case k4 => k_asm); (case k5 => k_asm); (case k6 => k_is); (case k7 => k_is); (case k8 => ktr_room); (case k9 => exact BindsTo.of_eq rfl); (case kB => exact rfl); (case kD => decide +kernel); (case c2 => exact rfl); (case c3 => exact rfl); (case c4 => exact rfl); k_whole; intro g' L' h' tk' cells' FG' F' N' Y' B' X' T' l1; k_cells Y'; (try dsimp only))
  k_with "mine step" => (first | (k_unfold; (try dsimp only)) | (k_end; wrow_close) | walk1 | (dsimp only; walk1) | (leave1; walk_say "STEP leave1"; try dsimp only))
  k_with "call ref" => (k_here; (with_reducible show wpAny _ _ (call (Value.ref 150) _) _ _ _); k_dflt (refine Ct.useRows (by k_asm) (by k_asm) (by k_asm) (by k_asm) (by k_asm) (by first | exact rfl | assumption) (by ktr_room) (by ktr_units) (rows_ct _ _ _ _ _ (by first | assumption | exact .tail _ (by assumption)) (by assumption) (by assumption)) ?_); intro b9 us9 k9 nx9 h9 tk9 hb9 hR9 hs9 F9 N9; (try dsimp only))
  k_with "eval Name" => (k_here; (with_reducible show wpAny _ _ (eval (Expr.Name _ _) (compEnvC _ _ _ _)) _ _ _); k_dflt (refine kcf_cell (by k_asm) rfl (by assumption) (by assumption) ?_))
  k_with "call ref" => (k_here; (with_reducible show wpAny _ _ (call (Value.ref 157) _) _ _ _); k_dflt (refine Ct.useInt (by k_asm) (by k_asm) (by k_asm) (by k_asm) (by k_asm) (by first | exact rfl | assumption) (by ktr_room) (by ktr_units) (logic_in (by assumption) (by assumption) (by assumption) (by assumption) (by assumption)) ?_); intro t9 h9 tk9 F9 N9; (try dsimp only))
  intro w mean mg mb dp un gd cn cs a ccd cl outer A₀ base h₀ L m s Q E B F X N T hk hdp hun hret
  refine wpAny_call ?_
  k_dflt (walk_at "mine enterC")
  iterate 1 (walk_at "mine step")
  (rename Fr _ _ _ _ => lF')
  (with_unfolding_all refine' LCg.Assign_ListComp_U (cl := [(Str.ofString "kind", _)]) lF' ?hLe ?hsw ?hclos ?hcell ?hkind ?hnames ?hx ?hy ?hp ?h ?hs)
  (case hLe => rfl)
  (case hsw => with_unfolding_all rfl)
  (case hclos => with_unfolding_all rfl)
  (case hcell => decide)
  (case hkind => rfl)
  (case hnames => decide)
  (case hx => rfl)
  (case hy => rfl)
  (case hp => rfl)
  (case hs => intro x; rfl)
  iterate 8 (walk_at "mine step")
  (rename Fr _ _ _ _ => F9)
  (rename News _ _ _ _ => N9)
  (rename PySem.Paired _ _ _ => hR9)
  (rename (Obj.data _ = _) => d3)
  have hlu := PySem.Paired.length hR9
  have hl32 := rowsV_len ns hlen
  (with_unfolding_all refine' LCg.CompSrc.ledger (by rfl) F9 N9 (by assumption) ?hsz (fun g => comp_rows (f := logicV kind) (rs := rowsV ns) (need := [_]) ?hE ?hneed ?hS _ (rowsV ns) [] 0 [] rfl hR9 (fun _ h => h) .nil ?fin))
  (case hsz => rw [PySem.sizeLine_eq, List.size_toArray]; omega)
  (case hneed => exact need_of (by assumption))
  (case hS => exact .inr ⟨_, by assumption, rfl, _, rfl⟩)
  (case hE =>
    unfold RowFn
    intro s₂ all C oC m₂ a₂ us₂ n₂ r Q₂ E₂ F₃ N₃ hC₃ hNs hmr hA hu hr hn kk
    have d4 := cell_eq d3 (b := some (.str (Str.ofString kind) tk)) (by with_unfolding_all rfl)
    have hc := hn _ (.head _)
    have hrl : r.length = ns.length := rowsV_row ns r hr
    have hr5 : r.length ≤ 5 := by omega
    have hr0 : r ≠ [] := fun e => by
      rw [e] at hrl
      exact hne (List.length_eq_zero_iff.mp hrl.symm)
    k_steps
    exact kk _ _ _ (by assumption) (by assumption))
  (case fin =>
    intro ys' hy'
    rw [List.nil_append] at hy'
    have kMark := kstMark
    have hfl : ((rowsV ns).map (logicV kind)).length ≤ 32 := by rw [List.length_map]; exact hl32
    have hf0 : 0 < ((rowsV ns).map (logicV kind)).length := by rw [List.length_map]; exact List.length_pos_iff.mpr (rowsV_ne ns)
    have hcv : codeV kind ns = if ((rowsV ns).map (logicV kind)).count (((rowsV ns).map (logicV kind)).getD 0 0) = ((rowsV ns).map (logicV kind)).length then ((rowsV ns).map (logicV kind)).getD 0 0 else 3 := rfl
    generalize (rowsV ns).map (logicV kind) = fs at *
    have hL := IntsAre.length hy'
    k_steps
    · exact hret _ _ _ _ (isInt.mk (code_yes hcv (by assumption))) (by assumption) (kst_newsOf (by assumption) (keep_in (by assumption)))
    · exact hret _ _ _ _ (isInt.mk (code_no hcv (by assumption))) (by assumption) (kst_newsOf (by assumption) (keep_in (by assumption))))
end Mine
namespace Mine
theorem code_const {kind : String} {ns : List Int} {v : Int} (h : ∀ r ∈ rowsV ns, logicV kind r = v) : codeV kind ns = v := by
  have e : (rowsV ns).map (logicV kind) = List.replicate (rowsV ns).length v := by
    refine List.eq_replicate_iff.mpr ⟨by simp, fun b hb => ?_⟩
    obtain ⟨r, hr, rfl⟩ := List.mem_map.mp hb
    exact h r hr
  have hp : 0 < (rowsV ns).length := List.length_pos_iff.mpr (rowsV_ne ns)
  have g : (List.replicate (rowsV ns).length v).getD 0 0 = v := by
    cases hn : (rowsV ns).length with
    | zero => omega
    | succ n => rfl
  unfold codeV
  rw [e]
  simp only [g, List.count_replicate_self, List.length_replicate, if_true]
theorem code_diff {kind : String} {ns r1 r2 : List Int} (h1 : r1 ∈ rowsV ns) (h2 : r2 ∈ rowsV ns) (h : logicV kind r1 ≠ logicV kind r2) : codeV kind ns = 3 := by
  show (if _ = _ then _ else _) = _
  rw [if_neg]
  intro q
  have this := List.count_eq_length.mp q
  exact h ((this _ (List.mem_map_of_mem h1)).symm.trans (this _ (List.mem_map_of_mem h2)))
def Fits : List Int → List Int → Prop
  | [], [] => True
  | b :: bs, c :: cs => c ∈ choices b ∧ Fits bs cs
  | _, _ => False
theorem fits_nil {q : List Int} : Fits [] q ↔ q = [] := by cases q <;> simp [Fits]
theorem fits_cons {b : Int} {bs q : List Int} : Fits (b :: bs) q ↔ ∃ c cs, q = c :: cs ∧ c ∈ choices b ∧ Fits bs cs := by
  cases q with
  | nil => simp [Fits]
  | cons c cs =>
    refine ⟨fun h => ⟨c, cs, rfl, h⟩, ?_⟩
    rintro ⟨c', cs', e, h⟩
    obtain ⟨rfl, rfl⟩ := List.cons.inj e
    exact h
theorem mem_fold (bits : List Int) : ∀ (rows : List (List Int)) (r : List Int), r ∈ bits.foldl stepV rows ↔ ∃ p ∈ rows, ∃ q, r = p ++ q ∧ Fits bits q := by
  induction bits with
  | nil => intro rows r; simp [fits_nil]
  | cons b bs ih =>
    intro rows r
    rw [List.foldl_cons, ih]
    constructor
    · rintro ⟨p, hp, q, rfl, hq⟩
      unfold stepV at hp
      obtain ⟨p', hp', hp⟩ := List.mem_flatMap.mp hp
      obtain ⟨c, hc, rfl⟩ := List.mem_map.mp hp
      exact ⟨p', hp', c :: q, by simp, fits_cons.mpr ⟨c, q, rfl, hc, hq⟩⟩
    · rintro ⟨p, hp, q, rfl, hq⟩
      obtain ⟨c, cs, rfl, hc, hq⟩ := fits_cons.mp hq
      refine ⟨p ++ [c], ?_, cs, by simp, hq⟩
      unfold stepV
      exact List.mem_flatMap.mpr ⟨p, hp, List.mem_map.mpr ⟨c, hc, rfl⟩⟩
theorem mem_rows {bits r : List Int} : r ∈ rowsV bits ↔ Fits bits r := by
  unfold rowsV
  rw [mem_fold]
  constructor
  · rintro ⟨p, hp, q, rfl, hq⟩
    rw [List.mem_singleton.mp hp]
    exact hq
  · intro h
    exact ⟨[], List.mem_singleton.mpr rfl, r, rfl, h⟩
theorem choices_01 {b c : Int} (h0 : 0 ≤ b) (h : c ∈ choices b) : c = 0 ∨ c = 1 := by
  unfold choices at h
  split at h
  · have := List.mem_singleton.mp h; omega
  · simpa using h
/-- the reading in which each unknown is v -/
def fillV (v : Int) (ns : List Int) : List Int := ns.map fun b => if b < 2 then b else v
theorem fits_fill {v : Int} (hv : v = 0 ∨ v = 1) : ∀ ns : List Int, Fits ns (fillV v ns)
  | [] => trivial
  | b :: bs => by
    refine ⟨?_, fits_fill hv bs⟩
    show (if b < 2 then b else v) ∈ choices b
    unfold choices
    split
    · simp
    · simpa using hv
theorem fits_same : ∀ {ns r : List Int}, Fits ns r → (∀ n ∈ ns, n ≤ 1) → r = ns
  | [], r, h, _ => fits_nil.mp h
  | b :: bs, r, h, hb => by
    obtain ⟨c, cs, rfl, hc, hf⟩ := fits_cons.mp h
    have h1 := hb b (.head _)
    rw [choices, if_pos (by omega)] at hc
    rw [List.mem_singleton.mp hc, fits_same hf fun n hn => hb n (.tail _ hn)]
theorem fits_01 : ∀ {ns r : List Int}, Fits ns r → (∀ n ∈ ns, 0 ≤ n) → ∀ x ∈ r, x = 0 ∨ x = 1
  | [], r, h, _ => by rw [fits_nil.mp h]; simp
  | b :: bs, r, h, hb => by
    obtain ⟨c, cs, rfl, hc, hf⟩ := fits_cons.mp h
    intro x hx
    rcases List.mem_cons.mp hx with rfl | hx
    · exact choices_01 (hb b (.head _)) hc
    · exact fits_01 hf (fun n hn => hb n (.tail _ hn)) x hx
theorem fits_mem {v : Int} (hv : v < 2) : ∀ {ns r : List Int}, Fits ns r → v ∈ ns → v ∈ r
  | [], r, h, hm => by simp at hm
  | b :: bs, r, h, hm => by
    obtain ⟨c, cs, rfl, hc, hf⟩ := fits_cons.mp h
    rcases List.mem_cons.mp hm with rfl | hm
    · rw [choices, if_pos hv] at hc
      rw [List.mem_singleton.mp hc]; exact .head _
    · exact .tail _ (fits_mem hv hf hm)
theorem many_all {r : List Int} : manyV r = (r.length : Int) ↔ ∀ x ∈ r, x = 1 := by
  unfold manyV
  constructor
  · intro h x hx
    exact (List.count_eq_length.mp (Int.ofNat.inj h) x hx).symm
  · intro h
    rw [List.count_eq_length.mpr fun b hb => (h b hb).symm]
theorem many_pos {r : List Int} : 0 < manyV r ↔ 1 ∈ r := by
  unfold manyV
  rw [← List.count_pos_iff (a := (1 : Int))]
  omega
theorem and_is {ns : List Int} (h0 : ∀ n ∈ ns, 0 ≤ n) : andC ns = codeV "and" ns := by
  unfold andC
  have hl : ∀ r, logicV "and" r = if manyV r = r.length then 1 else 0 := fun r => by simp only [logicV, String.reduceEq, reduceIte]
  split
  · next hz =>
    refine (code_const fun r hr => ?_).symm
    rw [hl, if_neg]
    rw [many_all]
    intro q
    have := q 0 (fits_mem (by decide) (mem_rows.mp hr) hz)
    omega
  · next hz =>
    split
    · next h1 =>
      refine (code_const fun r hr => ?_).symm
      rw [fits_same (mem_rows.mp hr) fun n hn => by have := h1 n hn; omega, hl, if_pos (many_all.mpr h1)]
    · next h1 =>
      obtain ⟨b, hb, hb1⟩ : ∃ b ∈ ns, b ≠ 1 := by
        refine Classical.byContradiction fun q => h1 fun n hn => Classical.byContradiction fun e => q ⟨n, hn, e⟩
      have hb2 : ¬ b < 2 := fun q => by
        have := h0 b hb
        have : b = 0 := by omega
        exact hz (this ▸ hb)
      refine (code_diff (r1 := fillV 1 ns) (r2 := fillV 0 ns) (mem_rows.mpr (fits_fill (.inr rfl) ns)) (mem_rows.mpr (fits_fill (.inl rfl) ns)) ?_).symm
      rw [hl, hl, if_pos, if_neg]
      · decide
      · rw [many_all]
        intro q
        have := q 0 (List.mem_map.mpr ⟨b, hb, if_neg hb2⟩)
        omega
      · rw [many_all]
        intro x hx
        obtain ⟨n, hn, rfl⟩ := List.mem_map.mp hx
        have h2 := h0 n hn
        have h3 : n ≠ 0 := fun e => hz (e ▸ hn)
        split <;> omega
theorem or_is {ns : List Int} (h0 : ∀ n ∈ ns, 0 ≤ n) : orC ns = codeV "or" ns := by
  unfold orC
  have hl : ∀ r, logicV "or" r = if 0 < manyV r then 1 else 0 := fun r => by simp only [logicV, String.reduceEq, reduceIte]
  split
  · next hz =>
    refine (code_const fun r hr => ?_).symm
    rw [hl, if_pos]
    rw [many_pos]
    exact fits_mem (by decide) (mem_rows.mp hr) hz
  · next hz =>
    split
    · next h1 =>
      refine (code_const fun r hr => ?_).symm
      rw [fits_same (mem_rows.mp hr) fun n hn => by have := h1 n hn; omega, hl, if_neg fun q => hz (many_pos.mp q)]
    · next h1 =>
      obtain ⟨b, hb, hb1⟩ : ∃ b ∈ ns, b ≠ 0 := by
        refine Classical.byContradiction fun q => h1 fun n hn => Classical.byContradiction fun e => q ⟨n, hn, e⟩
      have hb2 : ¬ b < 2 := fun q => by
        have := h0 b hb
        have : b = 1 := by omega
        exact hz (this ▸ hb)
      refine (code_diff (r1 := fillV 1 ns) (r2 := fillV 0 ns) (mem_rows.mpr (fits_fill (.inr rfl) ns)) (mem_rows.mpr (fits_fill (.inl rfl) ns)) ?_).symm
      rw [hl, hl, if_pos, if_neg]
      · decide
      · rw [many_pos]
        intro q
        obtain ⟨n, hn, e⟩ := List.mem_map.mp q
        have h3 : n ≠ 1 := fun e => hz (e ▸ hn)
        split at e <;> omega
      · rw [many_pos]
        exact List.mem_map.mpr ⟨b, hb, if_neg hb2⟩
theorem fits_append : ∀ {p q r s : List Int}, Fits p r → Fits q s → Fits (p ++ q) (r ++ s)
  | [], q, r, s, h, h' => by rw [fits_nil.mp h]; exact h'
  | b :: bs, q, r, s, h, h' => by
    obtain ⟨c, cs, rfl, hc, hf⟩ := fits_cons.mp h
    exact ⟨hc, fits_append hf h'⟩
theorem xor_is {ns : List Int} : xorC ns = codeV "xor" ns := by
  unfold xorC
  have hl : ∀ r, logicV "xor" r = (manyV r).fmod 2 := fun r => by simp only [logicV, String.reduceEq, reduceIte]
  split
  · next h1 =>
    refine (code_const fun r hr => ?_).symm
    rw [fits_same (mem_rows.mp hr) h1, hl]
    unfold manyV
    rw [Int.fmod_eq_emod_of_nonneg _ (by decide)]
  · next h1 =>
    obtain ⟨b, hb, hb1⟩ : ∃ b ∈ ns, 1 < b := by
      refine Classical.byContradiction fun q => h1 fun n hn => Classical.byContradiction fun e => q ⟨n, hn, by omega⟩
    obtain ⟨p, q, rfl⟩ := List.append_of_mem hb
    have hf : ∀ v : Int, v = 0 ∨ v = 1 → fillV 0 p ++ v :: fillV 0 q ∈ rowsV (p ++ b :: q) := fun v hv =>
      mem_rows.mpr (fits_append (fits_fill (.inl rfl) p) ⟨by rw [choices, if_neg (by omega)]; simpa using hv, fits_fill (.inl rfl) q⟩)
    refine (code_diff (hf 0 (.inl rfl)) (hf 1 (.inr rfl)) ?_).symm
    rw [hl, hl, Int.fmod_eq_emod_of_nonneg _ (by decide), Int.fmod_eq_emod_of_nonneg _ (by decide)]
    unfold manyV
    simp only [List.count_append, List.count_cons]
    simp
    omega
theorem opp_code {k k' : String} {ns : List Int} (h0 : ∀ n ∈ ns, 0 ≤ n) (h : ∀ r, logicV k' r = 1 - logicV k r) (hb : ∀ r ∈ rowsV ns, logicV k r = 0 ∨ logicV k r = 1) : opp (codeV k ns) = codeV k' ns := by
  by_cases q : ∃ v, ∀ r ∈ rowsV ns, logicV k r = v
  · obtain ⟨v, hv⟩ := q
    rw [code_const hv, code_const (kind := k') (v := 1 - v) fun r hr => by rw [h, hv r hr]]
    obtain ⟨r, hr⟩ := List.exists_mem_of_ne_nil _ (rowsV_ne ns)
    have := hb r hr
    rw [hv r hr] at this
    rcases this with rfl | rfl <;> decide
  · obtain ⟨r, hr⟩ := List.exists_mem_of_ne_nil _ (rowsV_ne ns)
    obtain ⟨r2, hr2, e⟩ : ∃ r2 ∈ rowsV ns, logicV k r2 ≠ logicV k r := Classical.byContradiction fun e => q ⟨_, fun r2 hr2 => Classical.byContradiction fun e' => e ⟨r2, hr2, e'⟩⟩
    rw [code_diff hr2 hr e, code_diff (kind := k') hr2 hr (by rw [h, h]; omega)]
    decide
theorem gate_code_l {kind : String} (hz : kindL kind) {ns : List Int} (h0 : ∀ n ∈ ns, 0 ≤ n) : gateV kind ns = codeV kind ns := by
  rcases hz with rfl | rfl | rfl | rfl | rfl | rfl
  · exact (show gateV "and" ns = andC ns by simp only [gateV, String.reduceEq, reduceIte]).trans (and_is h0)
  · refine (show gateV "nand" ns = opp (andC ns) by simp only [gateV, String.reduceEq, reduceIte]).trans ?_
    rw [and_is h0]
    exact opp_code h0 (fun r => by simp only [logicV, String.reduceEq, reduceIte]) fun r _ => by simp only [logicV, String.reduceEq, reduceIte]; split <;> simp
  · exact (show gateV "or" ns = orC ns by simp only [gateV, String.reduceEq, reduceIte]).trans (or_is h0)
  · refine (show gateV "nor" ns = opp (orC ns) by simp only [gateV, String.reduceEq, reduceIte]).trans ?_
    rw [or_is h0]
    exact opp_code h0 (fun r => by simp only [logicV, String.reduceEq, reduceIte]) fun r _ => by simp only [logicV, String.reduceEq, reduceIte]; split <;> simp
  · exact (show gateV "xor" ns = xorC ns by simp only [gateV, String.reduceEq, reduceIte]).trans xor_is
  · refine (show gateV "xnor" ns = opp (xorC ns) by simp only [gateV, String.reduceEq, reduceIte]).trans ?_
    rw [xor_is]
    exact opp_code h0 (fun r => by simp only [logicV, String.reduceEq, reduceIte]) fun r _ => by
      simp only [logicV, String.reduceEq, reduceIte]
      rw [Int.fmod_eq_emod_of_nonneg _ (by decide)]
      omega
theorem gate_code_1 {kind : String} (hz : kind1 kind) {c : Int} (h0 : 0 ≤ c) (h4 : c < 4) : gateV kind [c] = codeV kind [c] := by
  have : c = 0 ∨ c = 1 ∨ c = 2 ∨ c = 3 := by omega
  rcases hz with rfl | rfl <;> rcases this with rfl | rfl | rfl | rfl <;> decide +kernel
theorem logic_01 {kind : String} (hz : kindL kind ∨ kind1 kind) {c : Int} {r : List Int} (hr : ∀ x ∈ c :: r, x = 0 ∨ x = 1) : logicV kind (c :: r) = 0 ∨ logicV kind (c :: r) = 1 := by
  have hc := hr c (.head _)
  rcases hz with (rfl | rfl | rfl | rfl | rfl | rfl) | rfl | rfl <;> simp only [logicV, String.reduceEq, reduceIte, List.headD_cons]
  · split <;> simp
  · split <;> simp
  · split <;> simp
  · split <;> simp
  · rw [Int.fmod_eq_emod_of_nonneg _ (by decide)]; omega
  · rw [Int.fmod_eq_emod_of_nonneg _ (by decide)]; omega
  · exact hc
  · omega
theorem code_013 {kind : String} (hz : kindL kind ∨ kind1 kind) {ns : List Int} (hne : ns ≠ []) (h0 : ∀ n ∈ ns, 0 ≤ n) : codeV kind ns = 0 ∨ codeV kind ns = 1 ∨ codeV kind ns = 3 := by
  have hb : ∀ r ∈ rowsV ns, logicV kind r = 0 ∨ logicV kind r = 1 := fun r hr => by
    have hf := mem_rows.mp hr
    cases ns with
    | nil => exact absurd rfl hne
    | cons b bs =>
      have h01 := fits_01 hf h0
      obtain ⟨c, cs, rfl, _, _⟩ := fits_cons.mp hf
      exact logic_01 hz h01
  by_cases q : ∃ v, ∀ r ∈ rowsV ns, logicV kind r = v
  · obtain ⟨v, hv⟩ := q
    obtain ⟨r, hr⟩ := List.exists_mem_of_ne_nil _ (rowsV_ne ns)
    have := hb r hr
    rw [hv r hr] at this
    rw [code_const hv]
    omega
  · obtain ⟨r, hr⟩ := List.exists_mem_of_ne_nil _ (rowsV_ne ns)
    obtain ⟨r2, hr2, e⟩ : ∃ r2 ∈ rowsV ns, logicV kind r2 ≠ logicV kind r := Classical.byContradiction fun e => q ⟨_, fun r2 hr2 => Classical.byContradiction fun e' => e ⟨r2, hr2, e'⟩⟩
    rw [code_diff hr2 hr e]
    exact .inr (.inr rfl)
end Mine
namespace Mine
def invV (kind : String) (b : Int) : Int := if inB ["notif0", "notif1"] kind = true then 1 - b else b
theorem opening_c {kind : String} {op : Int} (h : kind3 kind) (e : opening kind = op) : (if inB ["bufif0", "notif0", "pmos"] kind = true then (0 : Int) else 1) = op := by
  subst e
  rcases h with rfl | rfl | rfl | rfl | rfl | rfl <;> decide +kernel
theorem opening_01 (kind : String) : opening kind = 0 ∨ opening kind = 1 := by
  unfold opening; split <;> simp
def mosI (kind : String) : Int := if inB ["nmos", "pmos"] kind = true then 1 else 0
/-- what a kind does to its data, in plain numbers -/
inductive KindF (kind : String) (d : Int) : Prop
  | mos : mosI kind = 1 → invV kind 0 = 0 → invV kind 1 = 1 → invV kind d = d → passed kind d = d → KindF kind d
  | buf : mosI kind = 0 → invV kind 0 = 0 → invV kind 1 = 1 → invV kind d = d → passed kind d = opp (opp d) → KindF kind d
  | inv : mosI kind = 0 → invV kind 0 = 1 → invV kind 1 = 0 → invV kind d = 1 - d → passed kind d = opp d → KindF kind d
theorem kindF {kind : String} (h3 : kind3 kind) (d : Int) : KindF kind d := by
  rcases h3 with rfl | rfl | rfl | rfl | rfl | rfl
  · exact .buf (by decide +kernel) (by decide +kernel) (by decide +kernel) (if_neg (by decide +kernel)) (by simp [passed])
  · exact .buf (by decide +kernel) (by decide +kernel) (by decide +kernel) (if_neg (by decide +kernel)) (by simp [passed])
  · exact .inv (by decide +kernel) (by decide +kernel) (by decide +kernel) (if_pos (by decide +kernel)) (by simp [passed])
  · exact .inv (by decide +kernel) (by decide +kernel) (by decide +kernel) (if_pos (by decide +kernel)) (by simp [passed])
  · exact .mos (by decide +kernel) (by decide +kernel) (by decide +kernel) (if_neg (by decide +kernel)) (by simp [passed])
  · exact .mos (by decide +kernel) (by decide +kernel) (by decide +kernel) (if_neg (by decide +kernel)) (by simp [passed])
end Mine
namespace Mine
open PySem.Calls PySem.Spec
/-- a turn is over (it went on, or it said continue): the names and the ledger are as J says -/
inductive CEnd (h₀ : Heap) (L I : Addr) (oI : Obj) (J : (Str → Option Value) → List (Addr × Obj) → Prop) (s : Shared) : Flow → Shared → Prop
  | next {m : Str → Option Value} {nx : List (Addr × Obj)} {h : Heap} {tk : Nat} : J m nx → Fr h₀ L h m → News h₀ L h ((I, oI) :: nx) → (∀ p ∈ nx, p.1 ≠ I) → CEnd h₀ L I oI J s .next { s with heap := h, toks := tk }
  | cont {m : Str → Option Value} {nx : List (Addr × Obj)} {h : Heap} {tk : Nat} : J m nx → Fr h₀ L h m → News h₀ L h ((I, oI) :: nx) → (∀ p ∈ nx, p.1 ≠ I) → CEnd h₀ L I oI J s .cont { s with heap := h, toks := tk }
def LoopC (prog : Program) (w : World) (A : Around) (env : Env) (target : PySem.Expr) (body : List Stmt) (Q : Flow → Shared → Prop) (E : Value → Shared → Prop) (it : Value) (s₂ : Shared) : Prop :=
  ∃ (I : Nat → Shared → Prop) (n : Nat), I n s₂ ∧ ∀ n s, I n s → wpAny (model prog w) A (pyNext it) (fun r s₁ => match r with
    | none => Q .next s₁
    | some v => wpAny (model prog w) A (letOwnedTupleGo target it v) (fun _ s₁' => wpAny (model prog w) A (assign target env v) (fun _ s₂ => wpAny (model prog w) A (execs body env) (fun f s₃ => (f = .next ∨ f = .cont) ∧ ∃ m, m < n ∧ I m s₃) E s₂) E s₁') E s₁) E s
section
variable {prog : Program} {w : World} {A : Around} {E : Value → Shared → Prop} {s : Shared} {env : Env} {h₀ : Heap} {target iter : PySem.Expr} {body : List Stmt} {Q : Flow → Shared → Prop}
/-- a for whose turns may say continue -/
theorem For_C {pos : Pos} (h : wpAny (model prog w) A (eval iter env) (fun xv s₁ => wpAny (model prog w) A (pyIter xv) (fun it s₂ => LoopC prog w A env target body Q E it s₂) E s₁) E s)
    (hs : ∀ x, foldedSetIterable iter env x = pure x) (hE : PassesOwn (model prog w) A env E := by passes_own) :
    wpAny (model prog w) A (exec (.For target iter body [] pos) env) Q E s := by
  refine wpAny_For (wpAny_mono h (fun xv s₁ h₁ => wpAny_mono h₁ (fun it s₂ h₂ => ?_) fun _ _ e => e) fun _ _ e => e) hs
  obtain ⟨I, n, h0, turn⟩ := h₂
  refine codeAny_forLoop_any I (fun n s hI => wpAny_passesOwn hE (wpAny_mono (turn n s hI) (fun r s₁ h₁ => ?_) fun _ _ e => e)) n h0
  cases r with
  | none => exact wpAny_execs_nil h₁
  | some v =>
    refine wpAny_passesOwn hE (wpAny_mono h₁ (fun _ _ h₂ => wpAny_passesOwn hE (wpAny_mono h₂ (fun _ _ h₃ => wpAny_passesOwn hE (wpAny_mono h₃ (fun f s₄ h₄ => ?_) fun _ _ e => e)) fun _ _ e => e)) fun _ _ e => e)
    obtain ⟨rfl | rfl, hm⟩ := h₄ <;> exact hm
/-- over a list of ints of the ledger; the ledger may grow and turn -/
theorem iterC {l : Addr} {vs : List Value} {ns : List Int} {nn : Nat} {m₀ : Str → Option Value} {news : List (Addr × Obj)} (J : Nat → (Str → Option Value) → List (Addr × Obj) → Prop)
    (hh : A.handled = none) (hl : ∀ i m nx, J i m nx → (l, listOf vs.toArray nn) ∈ nx) (hi : IntsAre vs ns) (F : Fr h₀ env.locals s.heap m₀) (N : News h₀ env.locals s.heap news) (hj : J 0 m₀ news)
    (turn : ∀ i n t m₁ nx s₁ I oI, ns[i]? = some n → J i m₁ nx → Fr h₀ env.locals s₁.heap m₁ → (∀ p ∈ nx, p.1 ≠ I) → oI.cls = .type "list_iterator" → News h₀ env.locals s₁.heap ((I, oI) :: nx) →
      wpAny (model prog w) A (assign target env (.int n t)) (fun _ s₃ => wpAny (model prog w) A (execs body env) (CEnd h₀ env.locals I oI (J (i + 1)) s₁) E s₃) E s₁)
    (done : ∀ m₁ nx h tk, J ns.length m₁ nx → Fr h₀ env.locals h m₁ → News h₀ env.locals h nx → Q .next { s with heap := h, toks := tk }) :
    wpAny (model prog w) A (pyIter (.ref l)) (fun it s₂ => LoopC prog w A env target body Q E it s₂) E s := by
  have hln := hl _ _ _ hj
  have hol : s.heap.get? l = some (listOf vs.toArray nn) := (N _ hln).1
  have hls : s.heap.IsList l vs.toArray := ⟨_, hol, rfl, nn, rfl⟩
  refine wpAny_pyIter_list hls ?_
  refine ⟨fun n s' => ∃ (i : Nat) (h : Heap) (tk : Nat) (m : Str → Option Value) (nx : List (Addr × Obj)) (oI : Obj), s' = { s with heap := h, toks := tk } ∧ LIter oI l i ∧ Fr h₀ env.locals h m ∧ News h₀ env.locals h ((s.heap.objs.size, oI) :: nx) ∧ (∀ p ∈ nx, p.1 ≠ s.heap.objs.size) ∧ J i m nx ∧ i ≤ ns.length ∧ n = ns.length + 1 - i,
    ns.length + 1, ⟨0, _, s.toks, m₀, news, _, rfl, ⟨rfl, rfl⟩, F.push _, News.push F N _, fun p hp e => absurd (Heap.lt_size (N p hp).1) (e ▸ Nat.lt_irrefl _), hj, Nat.zero_le _, rfl⟩, ?_⟩
  rintro n s' ⟨i, h, tk, m, nx, oI, rfl, hI, F', N', off, hJ, hle, rfl⟩
  have zI := N' _ (.head _)
  have hit : h.IsListIter s.heap.objs.size l i := ⟨oI, zI.1, hI.1, hI.2⟩
  have hl' : h.IsList l vs.toArray := ⟨_, (N' _ (.tail _ (hl _ _ _ hJ))).1, rfl, nn, rfl⟩
  have hlen : vs.length = ns.length := hi.length
  by_cases hlt : i < ns.length
  · obtain ⟨t, hx⟩ := hi.get i ns[i] (by simp [hlt])
    refine wpAny_pyNext_list_item hit hl' (x := .int ns[i] t) (by simpa using hx) fun h₁ hit₁ hs₁ => ?_
    refine letGo_listiter hit₁ ?_
    obtain ⟨oI₁, hoI₁, hc₁, hd₁⟩ := hit₁
    have F₁ : Fr h₀ env.locals h₁ m := fr_ext F' hs₁.extBut zI.2.1 zI.2.2
    have N₁ : News h₀ env.locals h₁ ((s.heap.objs.size, oI₁) :: nx) := fun p hp => by
      rcases List.mem_cons.mp hp with rfl | hp
      · exact ⟨hoI₁, zI.2⟩
      · exact news_ext (kst_newsOf N' fun _ hp => .tail _ hp) hs₁.extBut off p hp
    refine wpAny_mono (turn i ns[i] t m nx { s with heap := h₁, toks := tk } s.heap.objs.size oI₁ (by simp [hlt]) hJ F₁ off hc₁ N₁) (fun _ s₃ p => wpAny_mono p (fun f s₄ q => ?_) fun _ _ e => e) fun _ _ e => e
    cases q with
    | next hJ' F₂ N₂ off₂ => exact ⟨.inl rfl, _, by omega, i + 1, _, _, _, _, oI₁, rfl, ⟨hc₁, hd₁⟩, F₂, N₂, off₂, hJ', hlt, rfl⟩
    | cont hJ' F₂ N₂ off₂ => exact ⟨.inr rfl, _, by omega, i + 1, _, _, _, _, oI₁, rfl, ⟨hc₁, hd₁⟩, F₂, N₂, off₂, hJ', hlt, rfl⟩
  · have e : i = ns.length := by omega
    subst e
    refine wpAny_pyNext_list_end hh hit hl' (by simp [hlen]) fun h₁ he => ?_
    exact done m nx h₁ tk hJ (fr_ext F' he zI.2.1 zI.2.2) (news_ext (kst_newsOf N' fun _ hp => .tail _ hp) he off)
end
end Mine
namespace Mine
def forceV (kind : String) (s0 s1 b : Int) : Int := if invV kind b = 1 then s1 else -s0
def shutB (kind : String) (op d g : Int) : Bool := decide (g ≠ op) || (decide (d = 2) && inB ["nmos", "pmos"] kind)
def gateVs (kind : String) (op d s0 s1 g : Int) : List Int := if shutB kind op d g = true then [0] else (choices d).map (forceV kind s0 s1)
/-- u is the least, v the greatest of the list -/
def Sp (l : List Int) (u v : Int) : Prop := u ∈ l ∧ v ∈ l ∧ ∀ a ∈ l, u ≤ a ∧ a ≤ v
theorem Sp.one {x : Int} : Sp [x] x x := ⟨.head _, .head _, fun a ha => by rw [List.mem_singleton.mp ha]; exact ⟨Int.le_refl _, Int.le_refl _⟩⟩
theorem Sp.app {l l' : List Int} {u v u' v' x y : Int} (h : Sp l u v) (h' : Sp l' u' v') (hx : x = u ∨ x = u') (hxu : x ≤ u) (hxu' : x ≤ u') (hy : y = v ∨ y = v') (hyv : v ≤ y) (hyv' : v' ≤ y) : Sp (l ++ l') x y := by
  refine ⟨?_, ?_, fun a ha => ?_⟩
  · rcases hx with rfl | rfl
    · exact List.mem_append_left _ h.1
    · exact List.mem_append_right _ h'.1
  · rcases hy with rfl | rfl
    · exact List.mem_append_left _ h.2.1
    · exact List.mem_append_right _ h'.2.1
  · rcases List.mem_append.mp ha with ha | ha
    · exact ⟨Int.le_trans hxu (h.2.2 a ha).1, Int.le_trans (h.2.2 a ha).2 hyv⟩
    · exact ⟨Int.le_trans hxu' (h'.2.2 a ha).1, Int.le_trans (h'.2.2 a ha).2 hyv'⟩
def loV (p s0 s1 : Int) : Int := if p = 1 then s1 else -s0
def hiV (p s0 s1 : Int) : Int := if p = 0 then -s0 else s1
section
variable {kind : String} {op c d g s0 s1 : Int}
theorem open_sp (h3 : kind3 kind) (hd0 : 0 ≤ d) (hd4 : d < 4) (h0 : 0 ≤ s0) (h1 : 0 ≤ s1) (hp : passed kind d ≠ 2) : Sp ((choices d).map (forceV kind s0 s1)) (loV (passed kind d) s0 s1) (hiV (passed kind d) s0 s1) := by
  have hd : d = 0 ∨ d = 1 ∨ d = 2 ∨ d = 3 := by omega
  have hle : -s0 ≤ s1 := by omega
  have two : Sp ([-s0] ++ [s1]) (-s0) s1 := Sp.app Sp.one Sp.one (.inl rfl) (Int.le_refl _) hle (.inr rfl) hle (Int.le_refl _)
  have two' : Sp ([s1] ++ [-s0]) (-s0) s1 := Sp.app Sp.one Sp.one (.inr rfl) hle (Int.le_refl _) (.inl rfl) (Int.le_refl _) hle
  cases kindF h3 d with
  | mos _ a b _ e =>
    have f0 : forceV kind s0 s1 0 = -s0 := if_neg (by rw [a]; decide)
    have f1 : forceV kind s0 s1 1 = s1 := if_pos b
    rw [e] at hp ⊢
    rcases hd with rfl | rfl | rfl | rfl
    · show Sp [forceV kind s0 s1 0] _ _; rw [f0]; exact Sp.one
    · show Sp [forceV kind s0 s1 1] _ _; rw [f1]; exact Sp.one
    · exact absurd rfl hp
    · show Sp [forceV kind s0 s1 0, forceV kind s0 s1 1] _ _; rw [f0, f1]; exact two
  | buf _ a b _ e =>
    have f0 : forceV kind s0 s1 0 = -s0 := if_neg (by rw [a]; decide)
    have f1 : forceV kind s0 s1 1 = s1 := if_pos b
    rw [e] at hp ⊢
    rcases hd with rfl | rfl | rfl | rfl
    · show Sp [forceV kind s0 s1 0] _ _; rw [f0]; exact Sp.one
    · show Sp [forceV kind s0 s1 1] _ _; rw [f1]; exact Sp.one
    · show Sp [forceV kind s0 s1 0, forceV kind s0 s1 1] _ _; rw [f0, f1]; exact two
    · show Sp [forceV kind s0 s1 0, forceV kind s0 s1 1] _ _; rw [f0, f1]; exact two
  | inv _ a b _ e =>
    have f0 : forceV kind s0 s1 0 = s1 := if_pos a
    have f1 : forceV kind s0 s1 1 = -s0 := if_neg (by rw [b]; decide)
    rw [e] at hp ⊢
    rcases hd with rfl | rfl | rfl | rfl
    · show Sp [forceV kind s0 s1 0] _ _; rw [f0]; exact Sp.one
    · show Sp [forceV kind s0 s1 1] _ _; rw [f1]; exact Sp.one
    · show Sp [forceV kind s0 s1 0, forceV kind s0 s1 1] _ _; rw [f0, f1]; exact two'
    · show Sp [forceV kind s0 s1 0, forceV kind s0 s1 1] _ _; rw [f0, f1]; exact two'
theorem opp_ne2 (x : Int) : opp x ≠ 2 := by unfold opp; split <;> (try split) <;> decide
theorem mos_z (h3 : kind3 kind) : (d = 2 ∧ mosI kind = 1) ↔ passed kind d = 2 := by
  cases kindF h3 d with
  | mos m _ _ _ e => rw [e, m]; exact ⟨fun h => h.1, fun h => ⟨h, rfl⟩⟩
  | buf m _ _ _ e => rw [e, m]; exact ⟨fun h => absurd h.2 (by decide), fun h => absurd h (opp_ne2 _)⟩
  | inv m _ _ _ e => rw [e, m]; exact ⟨fun h => absurd h.2 (by decide), fun h => absurd h (opp_ne2 _)⟩
theorem shut_iff (h3 : kind3 kind) : shutB kind op d g = true ↔ g ≠ op ∨ passed kind d = 2 := by
  rw [← mos_z h3]
  unfold shutB mosI
  cases inB ["nmos", "pmos"] kind <;> simp
theorem gate_shut (h3 : kind3 kind) (h : g ≠ op ∨ passed kind d = 2) : Sp (gateVs kind op d s0 s1 g) 0 0 := by
  rw [gateVs, if_pos ((shut_iff h3).mpr h)]; exact Sp.one
theorem gate_open (h3 : kind3 kind) (hd0 : 0 ≤ d) (hd4 : d < 4) (h0 : 0 ≤ s0) (h1 : 0 ≤ s1) (h : g = op) (hp : passed kind d ≠ 2) : Sp (gateVs kind op d s0 s1 g) (loV (passed kind d) s0 s1) (hiV (passed kind d) s0 s1) := by
  rw [gateVs, if_neg fun q => ((shut_iff h3).mp q).elim (fun e => e h) hp]
  exact open_sp h3 hd0 hd4 h0 h1 hp
theorem forces_sp (h3 : kind3 kind) (hop : opening kind = op) (hop0 : 0 ≤ op) (hop1 : op ≤ 1) (hd0 : 0 ≤ d) (hd4 : d < 4) (hc0 : 0 ≤ c) (h0 : 0 ≤ s0) (h1 : 0 ≤ s1) :
    Sp ((choices c).flatMap (gateVs kind op d s0 s1)) (triV kind d c s0 s1).1 (triV kind d c s0 s1).2 := by
  have one : ∀ {x y : Int}, Sp (gateVs kind op d s0 s1 c) x y → Sp ([c].flatMap (gateVs kind op d s0 s1)) x y := fun h => by simpa using h
  have both : ∀ {x y : Int}, Sp (gateVs kind op d s0 s1 0 ++ gateVs kind op d s0 s1 1) x y → Sp ([0, 1].flatMap (gateVs kind op d s0 s1)) x y := fun h => by simpa using h
  by_cases hz : passed kind d = 2
  · have e : triV kind d c s0 s1 = (0, 0) := by
      unfold triV drv
      rw [hop, hz]
      split
      · rfl
      · rw [if_pos (.inr (.inr rfl))]
    rw [e]
    unfold choices
    split
    · exact one (gate_shut h3 (.inr hz))
    · exact both (Sp.app (gate_shut h3 (.inr hz)) (gate_shut h3 (.inr hz)) (.inl rfl) (Int.le_refl _) (Int.le_refl _) (.inl rfl) (Int.le_refl _) (Int.le_refl _))
  · by_cases hc : c < 2
    · rw [choices, if_pos hc]
      by_cases ho : c = op
      · have e : triV kind d c s0 s1 = (loV (passed kind d) s0 s1, hiV (passed kind d) s0 s1) := by
          unfold triV drv loV hiV
          rw [hop, if_pos ho]
          generalize passed kind d = p at *
          by_cases p0 : p = 0
          · subst p0; rfl
          · by_cases p1 : p = 1
            · subst p1; rfl
            · rw [if_neg p0, if_neg p1, if_neg hz, if_neg p1, if_neg p0]
        rw [e]
        exact one (gate_open h3 hd0 hd4 h0 h1 ho hz)
      · have e : triV kind d c s0 s1 = (0, 0) := by
          unfold triV
          rw [hop, if_neg ho, if_pos (by omega)]
        rw [e]
        exact one (gate_shut h3 (.inl ho))
    · rw [choices, if_neg hc]
      have ho : c ≠ op := by omega
      have hO := gate_open (s0 := s0) (s1 := s1) (g := op) h3 hd0 hd4 h0 h1 rfl hz
      have e : ∃ x y, triV kind d c s0 s1 = (x, y) ∧ (x = loV (passed kind d) s0 s1 ∨ x = 0) ∧ x ≤ loV (passed kind d) s0 s1 ∧ x ≤ 0 ∧ (y = hiV (passed kind d) s0 s1 ∨ y = 0) ∧ hiV (passed kind d) s0 s1 ≤ y ∧ 0 ≤ y := by
        unfold triV loV hiV
        rw [hop, if_neg ho]
        generalize passed kind d = p at *
        rw [if_neg (by omega)]
        by_cases p0 : p = 0
        · subst p0
          exact ⟨-s0, 0, rfl, .inl rfl, Int.le_refl _, by omega, .inr rfl, show -s0 ≤ 0 by omega, Int.le_refl _⟩
        · by_cases p1 : p = 1
          · subst p1
            exact ⟨0, s1, rfl, .inr rfl, h1, Int.le_refl _, .inl rfl, Int.le_refl _, h1⟩
          · rw [if_neg p0, if_neg p1, if_neg p1, if_neg p0]
            exact ⟨-s0, s1, rfl, .inl rfl, Int.le_refl _, by omega, .inl rfl, Int.le_refl _, h1⟩
      obtain ⟨x, y, e, a1, a2, a3, b1, b2, b3⟩ := e
      rw [e]
      have h01 : op = 0 ∨ op = 1 := by omega
      rcases h01 with rfl | rfl
      · exact both (Sp.app hO (gate_shut h3 (.inl (by decide))) a1 a2 a3 b1 b2 b3)
      · exact both (Sp.app (gate_shut h3 (.inl (by decide))) hO a1.symm a3 a2 b1.symm b3 b2)
theorem forces_is {M X : Int} {fs : List Int} (h3 : kind3 kind) (hop : opening kind = op) (hop0 : 0 ≤ op) (hop1 : op ≤ 1) (hd0 : 0 ≤ d) (hd4 : d < 4) (hc0 : 0 ≤ c) (h0 : 0 ≤ s0) (h1 : 0 ≤ s1)
    (hfs : (choices c).flatMap (gateVs kind op d s0 s1) = fs) (hX' : ∀ a, a ∈ fs → a ≤ X) (hM' : ∀ a, a ∈ fs → M ≤ a) (hX : X ∈ fs) (hM : M ∈ fs) : (M, X) = triV kind d c s0 s1 := by
  obtain ⟨hu, hv, hle⟩ := hfs ▸ forces_sp (c := c) h3 hop hop0 hop1 hd0 hd4 hc0 h0 h1
  exact Prod.ext (Int.le_antisymm (hM' _ hu) (hle M hM).1) (Int.le_antisymm (hle X hX).2 (hX' _ hv))
end
end Mine
namespace Mine
local macro_rules | `(tactic| walk_at $s:str) => `(tactic| k_extra $s)
/-- a test is done: it says c, the ledger stands -/
inductive BAt (h₀ : Heap) (L : Addr) (m : Str → Option Value) (news : List (Addr × Obj)) (s : Shared) (c : Bool) : Bool → Shared → Prop
  | mk {k : Bool} {h : Heap} {tk : Nat} : k = c → Fr h₀ L h m → News h₀ L h news → BAt h₀ L m news s c k { s with heap := h, toks := tk }
/-- an int's way is done: it is x, the ledger stands -/
inductive IAt (h₀ : Heap) (L : Addr) (m : Str → Option Value) (news : List (Addr × Obj)) (s : Shared) (x : Int) : Value → Shared → Prop
  | mk {j : Int} {t : Tok} {h : Heap} {tk : Nat} : j = x → Fr h₀ L h m → News h₀ L h news → IAt h₀ L m news s x (.int j t) { s with heap := h, toks := tk }
section
variable {M : Model} {A : Around} {s : Shared} {env : Env} {h₀ : Heap} {L : Addr} {m : Str → Option Value} {news : List (Addr × Obj)} {test a b : PySem.Expr} {b1 b2 : List Stmt} {pos : Pos}
theorem if_join {Q : Flow → Shared → Prop} {E : Value → Shared → Prop} (c : Bool) (uF : Fr h₀ L s.heap m) (uN : News h₀ L s.heap news) (hc : ∀ E', wpAny M A (isTrue test env (eval test env)) (BAt h₀ L m news s c) E' s)
    (ha : c = true → ∀ h tk, Fr h₀ L h m → News h₀ L h news → wpAny M A (execs b1 env) Q E { s with heap := h, toks := tk })
    (hb : c = false → ∀ h tk, Fr h₀ L h m → News h₀ L h news → wpAny M A (execs b2 env) Q E { s with heap := h, toks := tk }) : wpAny M A (exec (.If test b1 b2 pos) env) Q E s := by
  refine wpAny_If (wpAny_mono (hc E) (fun k s₁ h₁ => ?_) fun _ _ e => e)
  cases h₁ with
  | mk e F₁ N₁ =>
    cases k with
    | true => exact ha e.symm _ _ F₁ N₁
    | false => exact hb e.symm _ _ F₁ N₁
/-- a conditional expression of ints, both ways joined -/
theorem ifexp_join {Q E : Value → Shared → Prop} (c : Bool) (x y z : Int) (uF : Fr h₀ L s.heap m) (uN : News h₀ L s.heap news) (hz : (if c = true then x else y) = z)
    (hc : ∀ E', wpAny M A (isTrue test env (eval test env)) (BAt h₀ L m news s c) E' s)
    (ha : ∀ h tk E', Fr h₀ L h m → News h₀ L h news → wpAny M A (eval a env) (IAt h₀ L m news s x) E' { s with heap := h, toks := tk })
    (hb : ∀ h tk E', Fr h₀ L h m → News h₀ L h news → wpAny M A (eval b env) (IAt h₀ L m news s y) E' { s with heap := h, toks := tk })
    (k : ∀ t h tk, Fr h₀ L h m → News h₀ L h news → Q (.int z t) { s with heap := h, toks := tk }) : wpAny M A (eval (.IfExp test a b pos) env) Q E s := by
  subst hz
  refine wpAny_IfExp (wpAny_mono (hc E) (fun b' s₁ h₁ => ?_) fun _ _ e => e)
  cases h₁ with
  | mk e F₁ N₁ =>
    subst e
    cases b' with
    | true =>
      refine wpAny_mono (ha _ _ E F₁ N₁) (fun v s₂ h₂ => ?_) fun _ _ e => e
      cases h₂ with
      | mk e F₂ N₂ => subst e; exact k _ _ _ F₂ N₂
    | false =>
      refine wpAny_mono (hb _ _ E F₁ N₁) (fun v s₂ h₂ => ?_) fun _ _ e => e
      cases h₂ with
      | mk e F₂ N₂ => subst e; exact k _ _ _ F₂ N₂
/-- a walk to a new list of ints, its ways joined -/
theorem list_join {t : Sem Value} {Q E : Value → Shared → Prop} (cs : List Int) (uF : Fr h₀ L s.heap m) (uN : News h₀ L s.heap news)
    (hw : ∀ Q' : Value → Shared → Prop, (∀ X its n h tk, Fr h₀ L h m → News h₀ L h ((X, listOf its.toArray n) :: news) → (∀ p ∈ news, p.1 < X) → IntsAre its cs → Q' (.ref X) { s with heap := h, toks := tk }) → wpAny M A t Q' E s)
    (k : ∀ X its n h tk, Fr h₀ L h m → News h₀ L h ((X, listOf its.toArray n) :: news) → (∀ p ∈ news, p.1 < X) → IntsAre its cs → Q (.ref X) { s with heap := h, toks := tk }) : wpAny M A t Q E s := hw Q k
end
theorem fr_as {h₀ h : Heap} {L : Addr} {m : Str → Option Value} (F : Fr h₀ L h m) (m' : Str → Option Value) (e : m = m') : Fr h₀ L h m' := e ▸ F
structure KeptAt (h₀ : Heap) (L : Addr) (g : Heap) (news : List (Addr × Obj)) : Prop where
  N : News h₀ L g news
theorem keep_news {h₀ g h : Heap} {L L' : Addr} {m' : Str → Option Value} {news rest : List (Addr × Obj)} {q : Addr × Obj} (K : KeptAt h₀ L g news) (F' : Fr g L' h m') (kN : News h₀ L h (q :: rest)) : News h₀ L h (q :: news) := fun p hp => by
  rcases List.mem_cons.mp hp with rfl | hp
  · exact kN _ (.head _)
  · exact ⟨F'.keep _ _ (K.N p hp).1, (K.N p hp).2⟩
/-- a def is entered; the caller's ledger stands still while it runs -/
theorem code_keep {prog : Program} {w : World} {A A₀ : Around} {s : Shared} {K : Frag} {L : Addr} {h₀ base : Heap} {m mg mb : Str → Option Value} {news : List (Addr × Obj)} {p : Program} {loose : List Str} {mean : ExcName → Option Value}
    {env : Env} {outer : List Env} {R : Result → Shared → Prop} {name qual : Str} {params : Arguments} {body : List Stmt} {scope : Scope} {dV kV doc pm cdv ct oc : Value} {an od : Option Addr} {osl : Array (Option Value)} {f : Addr} {args : Args} {binds : List (Str × Value)}
    (B : Below A₀ base outer h₀) (F : Fr h₀ L s.heap m) (X₀ : K.In h₀) (N : News h₀ L s.heap news) (T : Top p loose mean mg mb h₀) (hA : A.frames = some (env :: outer)) (hf : env.frame = some L) (hke : env.scope.kind = .function)
    (ho : K.lookup f = some ⟨oc, od, .func (fnOf name qual params body scope dV kV doc pm an cdv ct), osl⟩) (hcd : codeIn K cdv qual = true) (hroom : A.depth < recursionLimit)
    (hbind : BindsTo s (fnOf name qual params body scope dV kV doc pm an cdv ct) args binds) (hloc : ∀ y ∈ binds, scope.names.lookup y.1 = some .local)
    (h : ∀ g L' h₁, Fr h₀ L g m → Fr g L' h₁ (fun y => binds.reverse.lookup y) → News g L' h₁ [] → KeptAt h₀ L g news → Below A base (env :: outer) g → K.In g → Top p loose mean mg mb g →
      wpAny (model prog w) (A.deeper (envOf qual scope L' f cdv)) (execs body (envOf qual scope L' f cdv))
        (fun fl s' => LeaveK h₀ L m g R (match fl with | .ret v => v | _ => .none) s')
        (fun e s' => wpAny (model prog w) (A.deeper (envOf qual scope L' f cdv)) (leaving (envOf qual scope L' f cdv) e) (fun _ s'' => R (.error e) s'') (fun e' s'' => R (.error e') s'') s')
        { s with heap := h₁, toks := s.toks + binds.length })
    (hco : scope.isCoroutine = false) (hgen : scope.isGenerator = false) (hk : scope.kind = .function)
    (hcell : ∀ x ∈ scope.names, x.2 ≠ .cell) : codeAny (model prog w) A (.call (.ref f) args) R s := by
  have Xs := X₀.keeps F.keep
  obtain ⟨FG, BG, st, lv⟩ := groundX (R := R) (news := []) B F (fun _ hp => nomatch hp) hA hf hke
  refine codeAny_call_def (fd := fnOf name qual params body scope dV kV doc pm an cdv ct) (body := body) (binds := binds) hroom (Xs _ _ ho) rfl (T.nolimit.keeps F.keep) (codeRec_of Xs hcd) rfl hbind hcell hloc (fun h₁ hns hk₁ => ?_) hco hgen hk
  exact wpAny_mono (h s.heap s.heap.objs.size h₁ FG ⟨hns, hk₁, Nat.le_refl _⟩ (fun _ hp => nomatch hp) ⟨N⟩ BG (X₀.keeps st) (T.keeps st)) (fun _ _ hl => lv _ _ hl) fun _ _ y => y
/-- a pair of ints comes back on top of the ledger -/
def isDuo (news : List (Addr × Obj)) (p : Int × Int) : Value → List (Addr × Obj) → Prop :=
  fun v news' => ∃ a t u, v = .ref a ∧ news' = (a, tupOf [.int p.1 t, .int p.2 u]) :: news
theorem isDuo.mk {news : List (Addr × Obj)} {p : Int × Int} {a : Addr} {i j : Int} {t u : Tok} (h : (i, j) = p) : isDuo news p (.ref a) ((a, tupOf [.int i t, .int j u]) :: news) := by
  subst h; exact ⟨a, t, u, rfl, rfl⟩
/-- between the turns of the outer loop: `found` holds what the gates so far gave -/
def JGate (kind : String) (op d s0 s1 : Int) (l f : Addr) (its : List Value) (nn : Nat) (gs : List Int) (m₀ : Str → Option Value) (i : Nat) (m : Str → Option Value) (nx : List (Addr × Obj)) : Prop :=
  ∃ us n og ob, m = (fun y => if y = Str.ofString "bit" then ob else if y = Str.ofString "gate" then og else m₀ y) ∧ nx = [(l, listOf its.toArray nn), (f, listOf us.toArray n)] ∧ us.length ≤ 2 * i ∧ @LT.lt Nat _ f l ∧ IntsAre us ((gs.take i).flatMap (gateVs kind op d s0 s1))
section
variable {kind : String} {op d s0 s1 : Int} {l f : Addr} {its : List Value} {nn : Nat} {gs : List Int} {m₀ m : Str → Option Value} {i : Nat} {nx : List (Addr × Obj)}
theorem JGate.lo (h : JGate kind op d s0 s1 l f its nn gs m₀ i m nx) : (l, listOf its.toArray nn) ∈ nx := by
  obtain ⟨us, n, og, ob, rfl, rfl, _⟩ := h; exact .head _
theorem gateVs_pos (kind : String) (op d s0 s1 g : Int) : 0 < (gateVs kind op d s0 s1 g).length := by
  unfold gateVs choices
  split
  · simp
  · split <;> simp
theorem forces_pos {c : Int} : 0 < ((choices c).flatMap (gateVs kind op d s0 s1)).length := by
  unfold choices
  split <;> simp only [List.flatMap_cons, List.length_append] <;> have := gateVs_pos kind op d s0 s1 <;> first | (have h := this c; omega) | (have h := this 0; omega)
theorem bit_gate {m₀ : Str → Option Value} {a og ob : Option Value} : (fun y => if y = Str.ofString "gate" then a else if y = Str.ofString "bit" then ob else if y = Str.ofString "gate" then og else m₀ y) = fun y => if y = Str.ofString "bit" then ob else if y = Str.ofString "gate" then a else m₀ y := by
  funext y
  by_cases h1 : y = Str.ofString "gate"
  · have h2 : ¬ y = Str.ofString "bit" := fun e => absurd (h1.symm.trans e) (by decide +kernel)
    simp only [if_pos h1, if_neg h2]
  · simp only [if_neg h1]
theorem take_flat {g : Int} {F : Int → List Int} (hg : gs[i]? = some g) : (gs.take (i + 1)).flatMap F = (gs.take i).flatMap F ++ F g := by
  rw [List.take_add_one, hg]; simp
theorem JGate.shut {g : Int} {us : List Value} {n : Nat} {a og ob : Option Value} {t : Tok} (hg : gs[i]? = some g) (hs : shutB kind op d g = true) (hul : us.length ≤ 2 * i) (hlf : @LT.lt Nat _ f l) (hiu : IntsAre us ((gs.take i).flatMap (gateVs kind op d s0 s1))) :
    JGate kind op d s0 s1 l f its nn gs m₀ (i + 1) (fun y => if y = Str.ofString "gate" then a else if y = Str.ofString "bit" then ob else if y = Str.ofString "gate" then og else m₀ y) [(l, listOf its.toArray nn), (f, listOf (us.toArray.push (.int 0 t)) n)] := by
  refine ⟨us ++ [.int 0 t], n, a, ob, bit_gate, by rw [List.push_toArray], by simp only [List.length_append, List.length_cons, List.length_nil]; omega, hlf, ?_⟩
  rw [take_flat hg]
  refine IntsAre.append hiu ?_
  rw [gateVs, if_pos hs]
  exact .cons _ _ .nil
theorem off_new {a b b' : Addr × Obj} {I : Addr} (h : ∀ p ∈ [a, b], p.1 ≠ I) (e : b.1 = b'.1 := by rfl) : ∀ p ∈ [a, b'], p.1 ≠ I := fun p hp => by
  rcases List.mem_cons.mp hp with rfl | hp
  · exact h _ (.head _)
  · rw [List.mem_singleton.mp hp, ← e]; exact h _ (.tail _ (.head _))
theorem off_new4 {a b c d d' : Addr × Obj} {I : Addr} (h : ∀ p ∈ [a, b, c, d], p.1 ≠ I) (e : d.1 = d'.1 := by rfl) : ∀ p ∈ [a, b, c, d'], p.1 ≠ I := fun p hp => by
  simp only [List.mem_cons, List.not_mem_nil, or_false] at hp h
  rcases hp with rfl | rfl | rfl | rfl
  · exact h _ (.inl rfl)
  · exact h _ (.inr (.inl rfl))
  · exact h _ (.inr (.inr (.inl rfl)))
  · rw [← e]; exact h _ (.inr (.inr (.inr rfl)))
/-- between the turns of the inner loop -/
def JBit (kind : String) (s0 s1 : Int) (k0 : Nat) (X : Addr) (its2 : List Value) (n2 : Nat) (q : Addr × Obj) (l f : Addr) (its : List Value) (nn : Nat) (base bs : List Int) (m₀ : Str → Option Value) (j : Nat) (m : Str → Option Value) (nx : List (Addr × Obj)) : Prop :=
  ∃ us n ob, m = (fun y => if y = Str.ofString "bit" then ob else m₀ y) ∧ nx = [(X, listOf its2.toArray n2), q, (l, listOf its.toArray nn), (f, listOf us.toArray n)] ∧ us.length ≤ k0 + j ∧ IntsAre us (base ++ (bs.take j).map (forceV kind s0 s1))
section
variable {k0 j : Nat} {X : Addr} {its2 : List Value} {n2 n : Nat} {q : Addr × Obj} {base bs : List Int} {us : List Value}
theorem JBit.lo (h : JBit kind s0 s1 k0 X its2 n2 q l f its nn base bs m₀ j m nx) : (X, listOf its2.toArray n2) ∈ nx := by
  obtain ⟨us, n, ob, rfl, rfl, _⟩ := h; exact .head _
theorem JBit.start (hul : us.length ≤ k0) (hiu : IntsAre us base) : JBit kind s0 s1 k0 X its2 n2 q l f its nn base bs m₀ 0 m₀ [(X, listOf its2.toArray n2), q, (l, listOf its.toArray nn), (f, listOf us.toArray n)] := ⟨us, n, m₀ (Str.ofString "bit"), by
  funext y
  by_cases h1 : y = Str.ofString "bit"
  · rw [if_pos h1, h1]
  · rw [if_neg h1], rfl, hul, by simpa using hiu⟩
theorem JBit.turn {b x : Int} {a b' ob : Option Value} {t : Tok} (hb : bs[j]? = some b) (hx : x = forceV kind s0 s1 b) (hul : us.length ≤ k0 + j) (hiu : IntsAre us (base ++ (bs.take j).map (forceV kind s0 s1))) :
    JBit kind s0 s1 k0 X its2 n2 q l f its nn base bs m₀ (j + 1) (fun y => if y = Str.ofString "bit" then a else if y = Str.ofString "bit" then b' else if y = Str.ofString "bit" then ob else m₀ y) [(X, listOf its2.toArray n2), q, (l, listOf its.toArray nn), (f, listOf (us.toArray.push (.int x t)) n)] := by
  refine ⟨us ++ [.int x t], n, a, ?_, by rw [List.push_toArray], by simp only [List.length_append, List.length_cons, List.length_nil]; omega, ?_⟩
  · funext y
    by_cases h1 : y = Str.ofString "bit"
    · simp only [if_pos h1]
    · simp only [if_neg h1]
  · rw [List.take_add_one, hb, List.map_append, ← List.append_assoc]
    exact IntsAre.append hiu (by rw [hx]; exact .cons _ _ .nil)
theorem JGate.open' {g : Int} {a b' og ob : Option Value} (hg : gs[i]? = some g) (hs : shutB kind op d g = false) (hlf : @LT.lt Nat _ f l) (hul : us.length ≤ 2 * i + (choices d).length) (hiu : IntsAre us ((gs.take i).flatMap (gateVs kind op d s0 s1) ++ ((choices d).take (choices d).length).map (forceV kind s0 s1))) :
    JGate kind op d s0 s1 l f its nn gs m₀ (i + 1) (fun y => if y = Str.ofString "bit" then a else if y = Str.ofString "gate" then b' else if y = Str.ofString "bit" then ob else if y = Str.ofString "gate" then og else m₀ y) [(l, listOf its.toArray nn), (f, listOf us.toArray n)] := by
  have h2 := choices_len d
  refine ⟨us, n, b', a, ?_, rfl, by omega, hlf, ?_⟩
  · funext y
    by_cases h1 : y = Str.ofString "bit"
    · simp only [if_pos h1]
    · by_cases h2 : y = Str.ofString "gate"
      · simp only [if_neg h1, if_pos h2]
      · simp only [if_neg h1, if_neg h2]
  · rw [take_flat hg, gateVs, hs]
    rw [List.take_length] at hiu
    exact hiu
end
theorem JGate.start (hfl : @LT.lt Nat _ f l) : JGate kind op d s0 s1 l f its nn gs m₀ 0 m₀ [(l, listOf its.toArray nn), (f, listOf ([] : List Value).toArray 0)] := ⟨[], 0, m₀ (Str.ofString "gate"), m₀ (Str.ofString "bit"), by
  funext y
  by_cases h1 : y = Str.ofString "bit"
  · rw [if_pos h1, h1]
  · by_cases h2 : y = Str.ofString "gate"
    · rw [if_neg h1, if_pos h2, h2]
    · rw [if_neg h1, if_neg h2], rfl, Nat.le_refl 0, hfl, .nil⟩
end
theorem lt1 {a : Addr × Obj} {b : Addr} (h : @LT.lt Nat _ a.1 b) : ∀ p ∈ [a], p.1 < b := fun p hp => by rw [List.mem_singleton.mp hp]; exact h
theorem lt3 {a c e : Addr × Obj} {b : Addr} (h : @LT.lt Nat _ a.1 b ∧ @LT.lt Nat _ c.1 b ∧ @LT.lt Nat _ e.1 b) : ∀ p ∈ [a, c, e], p.1 < b := fun p hp => by
  simp only [List.mem_cons, List.not_mem_nil, or_false] at hp
  rcases hp with rfl | rfl | rfl
  · exact h.1
  · exact h.2.1
  · exact h.2.2
section
variable {kind : String} {op d g : Int}
theorem shut1 (h : g ≠ op) : true = shutB kind op d g := by simp [shutB, h]
theorem shut2 (hd : d = 2) (hk : ([Str.ofString "nmos", Str.ofString "pmos"].any fun x => x == Str.ofString kind) = true) : true = shutB kind op d g := by
  have e : inB ["nmos", "pmos"] kind = true := hk
  simp [shutB, hd, e]
theorem shut3 (h : g = op) (hk : ([Str.ofString "nmos", Str.ofString "pmos"].any fun x => x == Str.ofString kind) = false) : false = shutB kind op d g := by
  have e : inB ["nmos", "pmos"] kind = false := hk
  simp [shutB, h, e]
theorem shut4 (h : g = op) (hd : d ≠ 2) : false = shutB kind op d g := by simp [shutB, h, hd]
end
theorem choices_lt {c g : Int} {i : Nat} (h : (choices c)[i]? = some g) : i < 2 := by
  have := choices_len c
  obtain ⟨hi, _⟩ := List.getElem?_eq_some_iff.mp h
  omega
theorem forces_ct (kind : String) (h3 : kind3 kind) (news : List (Addr × Obj)) (d c s0 s1 : Int) (tk td tc t0 t1 : Tok) (hd0 : 0 ≤ d) (hd4 : d < 4) (hc0 : 0 ≤ c) (hc4 : c < 4) (h0 : 0 ≤ s0) (h1 : 0 ≤ s1) (hb0 : s0 < 8) (hb1 : s1 < 8) :
    Ct 1 169 [.str (Str.ofString kind) tk, .int d td, .int c tc, .int s0 t0, .int s1 t1] news (isDuo news (triV kind d c s0 s1)) := by
  unfold Ct
  w_top off
  k_fill
  k_with_none
  k_with "mine enterK" => (refine' code_keep ?k1 ?k2 ?k3 ?k4 ?k5 ?kA ?kF ?kK ?k6 ?k7 ?k8 ?k9 ?kB ?_ ?c2 ?c3 ?c4 ?c5; (case kA => exact rfl); (case kF => exact rfl); (case kK => assumption); (case k1 => k_asm); (case k2 => k_asm); (case k3 => k_asm); (case k4 => k_asm); (case k5 => k_asm); (case k6 => k_is); (case k7 => k_is); (case k8 => ktr_room); (case k9 => exact BindsTo.of_eq rfl); (case c5 => decide); (case kB => exact locs rfl); (case c2 => exact rfl); (case c3 => exact rfl); (case c4 => exact rfl); k_whole; intro g' L' h' FG' F' N' NG' B' X' T'; (try dsimp only); (try k_fold))
  k_with "mine step" => (first | (k_unfold; (try dsimp only)) | (k_end; wrow_close) | walk1 | (dsimp only; walk1) | (leave1; walk_say "STEP leave1"; try dsimp only))
  k_with "mine bat" => (with_unfolding_all first | exact BAt.mk rfl (by assumption) (kst_newsOf (by assumption) (by intro p hp; first | exact hp | exact .tail _ hp)) | exact IAt.mk rfl (by assumption) (kst_newsOf (by assumption) (by intro p hp; first | exact hp | exact .tail _ hp)))
  obtain ⟨op, hop⟩ : ∃ op, opening kind = op := ⟨_, rfl⟩
  have hop0 : 0 ≤ op := by rcases opening_01 kind with h | h <;> omega
  have hop1 : op ≤ 1 := by rcases opening_01 kind with h | h <;> omega
  intro w mean mg mb dp un gd cn cs a ccd cl outer A₀ base h₀ L m s Q E B F X N T hk hdp hun hret
  refine wpAny_call ?_
  k_dflt (walk_at "mine enterK")
  (rename Fr _ _ _ _ => F8)
  replace F8 := fr_as F8 (fun y => List.lookup y [(Str.ofString "high", Value.int s1 t1), (Str.ofString "low", Value.int s0 t0), (Str.ofString "control", Value.int c tc), (Str.ofString "data", Value.int d td), (Str.ofString "kind", Value.str (Str.ofString kind) tk)]) (by with_unfolding_all rfl)
  iterate 8 (walk_at "mine step")
  (with_unfolding_all refine For_C ?_ (fun _ => rfl))
  (rename Fr _ _ _ _ => F8)
  (rename News _ _ _ _ => N8)
  refine list_join (choices c) F8 N8 ?hw ?hk
  (case hw =>
    intro Q' kk
    by_cases hlt : c < 2
    · have e : choices c = [c] := if_pos hlt
      rw [e] at kk
      k_steps
      exact kk _ _ _ _ _ (by assumption) (by assumption) (by first | exact lt1 (by assumption) | exact lt3 (by assumption)) (.cons _ _ .nil)
    · have e : choices c = [0, 1] := if_neg hlt
      rw [e] at kk
      k_steps
      exact kk _ _ _ _ _ (by assumption) (by assumption) (by first | exact lt1 (by assumption) | exact lt3 (by assumption)) (.cons _ _ (.cons _ _ .nil)))
  intro X₁ its₁ n₁ h₁ tk₁ F₁ N₁ lt₁ hi₁
  clear F8 N8
  (with_unfolding_all refine iterC (nn := n₁) (JGate kind op d s0 s1 X₁ _ its₁ n₁ (choices c) _) rfl (fun i m nx h => JGate.lo h) hi₁ F₁ N₁ (JGate.start (lt₁ _ (.head _))) ?turn ?done)
  (case done =>
    rintro m₁ nx h₂ tk₂ ⟨us, n, og, ob, rfl, rfl, hul, hlf, hiu⟩ F₂ N₂
    dsimp only
    rw [List.take_length] at hiu
    have hfl : 0 < ((choices c).flatMap (gateVs kind op d s0 s1)).length := forces_pos
    generalize hfs : (choices c).flatMap (gateVs kind op d s0 s1) = fs at hiu hfl
    k_steps
    refine hret _ _ _ _ (isDuo.mk (forces_is h3 hop hop0 hop1 hd0 hd4 hc0 h0 h1 hfs (by assumption) (by assumption) (by assumption) (by assumption))) (by assumption) (keep_news (by assumption) (by assumption) (by assumption)))
  rintro i g tg m₁ nx s₁ I oI hg ⟨us, n, og, ob, rfl, rfl, hul, hlf, hiu⟩ F₂ off hcls N₂
  clear F₁ N₁
  have hi2 : i < 2 := choices_lt hg
  have hfI := neN (off _ (.tail _ (.head _)))
  dsimp only at hfI
  refine wpAny_assign_Name ?_
  iterate 3 (walk_at "mine step")
  (rename Fr _ _ _ _ => F8)
  (rename News _ _ _ _ => N8)
  refine if_join (shutB kind op d g) F8 N8 ?hc ?ha ?hb
  (case hc =>
    intro E'
    clear hret
    iterate 3 (walk_at "mine step")
    (rename Fr _ _ _ _ => F8)
    (rename News _ _ _ _ => N8)
    refine ifexp_join (inB ["bufif0", "notif0", "pmos"] kind) 0 1 op F8 N8 (opening_c h3 hop) ?hc1 ?ha1 ?hb1 ?_
    (case hc1 => intro E9; k_steps; all_goals walk_at "mine bat")
    (case ha1 => intro h9 tk9 E9 F9 N9; k_steps; all_goals walk_at "mine bat")
    (case hb1 => intro h9 tk9 E9 F9 N9; k_steps; all_goals walk_at "mine bat")
    intro t9 h9 tk9 F9 N9
    k_steps
    all_goals (
      refine BAt.mk ?_ (by assumption) (kst_newsOf (by assumption) (by intro p hp; first | exact hp | exact .tail _ hp))
      first
      | exact shut1 (by assumption)
      | exact shut2 (by assumption) (by assumption)
      | exact shut4 (by assumption) (by assumption)
      | exact shut3 (by assumption) (by assumption)))
  (case ha =>
    intro hs h₃ tk₃ F₃ N₃
    clear F8 N8
    k_steps
    (rename Fr _ _ _ _ => F8)
    (rename News _ _ _ _ => N8)
    with_unfolding_all exact CEnd.cont (JGate.shut hg hs hul hlf hiu) F8 N8 (off_new off))
  intro hs h₃ tk₃ F₃ N₃
  clear F8 N8
  iterate 2 (walk_at "mine step")
  (with_unfolding_all refine For_C ?_ (fun _ => rfl))
  refine list_join (choices d) F₃ N₃ ?hw2 ?hk2
  (case hw2 =>
    intro Q' kk
    clear hret
    by_cases hlt : d < 2
    · have e : choices d = [d] := if_pos hlt
      rw [e] at kk
      k_steps
      exact kk _ _ _ _ _ (by assumption) (by assumption) (by first | exact lt1 (by assumption) | exact lt3 (by assumption)) (.cons _ _ .nil)
    · have e : choices d = [0, 1] := if_neg hlt
      rw [e] at kk
      k_steps
      exact kk _ _ _ _ _ (by assumption) (by assumption) (by first | exact lt1 (by assumption) | exact lt3 (by assumption)) (.cons _ _ (.cons _ _ .nil)))
  intro X₂ its₂ n₂ h₄ tk₄ F₄ N₄ lt₂ hi₂
  clear F₃ N₃
  (with_unfolding_all refine iterC (nn := n₂) (JBit kind s0 s1 (2 * i) X₂ its₂ n₂ (I, oI) X₁ _ its₁ n₁ _ (choices d) _) rfl (fun i m nx h => JBit.lo h) hi₂ F₄ N₄ (JBit.start hul hiu) ?turn2 ?done2)
  (case done2 =>
    rintro m₂ nx₂ h₅ tk₅ ⟨us', n', ob', rfl, rfl, hul', hiu'⟩ F₅ N₅
    dsimp only
    k_steps
    with_unfolding_all exact CEnd.next (JGate.open' hg hs hlf hul' hiu') F₅ (kst_newsOf N₅ fun _ hp => .tail _ hp) (off_new off))
  rintro j b tb m₂ nx₂ s₂ I₂ oI₂ hb ⟨us', n', ob', rfl, rfl, hul', hiu'⟩ F₅ off₂ hcls₂ N₅
  clear F₄ N₄
  refine wpAny_assign_Name ?_
  iterate 4 (walk_at "mine step")
  clear hret
  have hfX := neN (Nat.ne_of_lt (lt₂ _ (.tail _ (.tail _ (.head _)))))
  have hfI2 := neN (off₂ _ (.tail _ (.tail _ (.tail _ (.head _)))))
  dsimp only at hfX hfI2
  have hj2 : j < 2 := choices_lt hb
  (rename Fr _ _ _ _ => F8)
  (rename News _ _ _ _ => N8)
  refine ifexp_join (inB ["notif0", "notif1"] kind) (1 - b) b (invV kind b) F8 N8 rfl ?hc1 ?ha1 ?hb1 ?_
  (case hc1 => intro E9; k_steps; all_goals walk_at "mine bat")
  (case ha1 => intro h9 tk9 E9 F9 N9; k_steps; all_goals walk_at "mine bat")
  (case hb1 => intro h9 tk9 E9 F9 N9; k_steps; all_goals walk_at "mine bat")
  intro t9 h9 tk9 F9 N9
  generalize hv : invV kind b = v
  clear F8 N8
  iterate 8 (walk_at "mine step")
  (rename Fr _ _ _ _ => F8)
  (rename News _ _ _ _ => N8)
  refine ifexp_join (decide (v = 1)) s1 (-s0) (forceV kind s0 s1 b) F8 N8 (by rw [forceV, hv]; simp) ?hc2 ?ha2 ?hb2 ?_
  (case hc2 => intro E9; k_steps; all_goals (exact BAt.mk rfl (by assumption) (by assumption)))
  (case ha2 => intro h9 tk9 E9 F9 N9; k_steps; all_goals walk_at "mine bat")
  (case hb2 => intro h9 tk9 E9 F9 N9; k_steps; all_goals walk_at "mine bat")
  intro t8 h8 tk8 F9 N9
  clear F8 N8
  k_steps
  (rename Fr _ _ _ _ => F8)
  (rename News _ _ _ _ => N8)
  with_unfolding_all exact CEnd.next (JBit.turn hb rfl hul' hiu') F8 N8 (off_new4 off₂)
end Mine
namespace Mine
theorem up_ct (news : List (Addr × Obj)) (l : Addr) (s0 s1 : Int) (tk t0 t1 : Tok) : Ct 4 124 [.str (Str.ofString "pullup") tk, .ref l, .int s0 t0, .int s1 t1] news (isPair news (s1, s1)) := by
  unfold Ct
  w_top off
  k_fill
  k_with_none
  intro w mean mg mb dp un gd cn cs a ccd cl outer A₀ base h₀ L m s Q E B F X N T hk hdp hun hret
  refine wpAny_call ?_
  k_dflt cell_enter
  k_steps
  exact hret _ _ _ _ (isPair.mk rfl (by assumption)) (by assumption) (by assumption)
theorem down_ct (news : List (Addr × Obj)) (l : Addr) (s0 s1 : Int) (tk t0 t1 : Tok) : Ct 4 124 [.str (Str.ofString "pulldown") tk, .ref l, .int s0 t0, .int s1 t1] news (isPair news (-s0, -s0)) := by
  unfold Ct
  w_top off
  k_fill
  k_with_none
  intro w mean mg mb dp un gd cn cs a ccd cl outer A₀ base h₀ L m s Q E B F X N T hk hdp hun hret
  refine wpAny_call ?_
  k_dflt cell_enter
  k_steps
  exact hret _ _ _ _ (isPair.mk rfl (by assumption)) (by assumption) (by assumption)
/-- the kinds of the first loop, with the codes they are given -/
def KindN (kind : String) (ns : List Int) : Prop := kindL kind ∨ (kind1 kind ∧ ns.length = 1)
theorem one_int {vs : List Value} {ns : List Int} (hi : IntsAre vs ns) (h : ns.length = 1) : ∃ c t, ns = [c] ∧ vs = [Value.int c t] := by
  cases hi with
  | nil => exact absurd h (by decide)
  | cons c t hi =>
    cases hi with
    | nil => exact ⟨c, t, rfl, rfl⟩
    | cons _ _ _ => exact absurd h (by simp)
theorem gate_c {kind : String} {news : List (Addr × Obj)} {l : Addr} {vs : List Value} {nn : Nat} {ns : List Int} {t : Tok} {x : Int} (hz : KindN kind ns) (hl : (l, listOf vs.toArray nn) ∈ news) (hi : IntsAre vs ns) (h04 : ∀ n ∈ ns, 0 ≤ n ∧ n < 4) (hx : codeV kind ns = x) :
    Ct 2 89 [.str (Str.ofString kind) t, .ref l] news (isInt news x) := by
  rcases hz with hz | ⟨hz, h1⟩
  · rw [← hx, ← gate_code_l hz fun n hn => (h04 n hn).1]
    exact gate_l kind hz news l vs nn ns t hl hi fun n hn => (h04 n hn).1
  · obtain ⟨c, tc, rfl, rfl⟩ := one_int hi h1
    rw [← hx, ← gate_code_1 hz (h04 c (.head _)).1 (h04 c (.head _)).2]
    exact gate_1 kind hz news l c tc [] nn t hl
theorem pair_c {kind : String} {news : List (Addr × Obj)} {l : Addr} {vs : List Value} {nn : Nat} {ns : List Int} {tk t0 t1 : Tok} {x s0 s1 : Int} {p : Int × Int} (hz : KindN kind ns) (hl : (l, listOf vs.toArray nn) ∈ news) (hi : IntsAre vs ns) (h04 : ∀ n ∈ ns, 0 ≤ n ∧ n < 4) (hx : codeV kind ns = x) (hp : drv x s0 s1 = p) :
    Ct 4 124 [.str (Str.ofString kind) tk, .ref l, .int s0 t0, .int s1 t1] news (isPair news p) := by
  rcases hz with hz | ⟨hz, h1⟩
  · rw [← hp, ← hx, ← gate_code_l hz fun n hn => (h04 n hn).1]
    exact pair_l kind hz news l vs nn ns tk t0 t1 s0 s1 hl hi fun n hn => (h04 n hn).1
  · obtain ⟨c, tc, rfl, rfl⟩ := one_int hi h1
    rw [← hp, ← hx, ← gate_code_1 hz (h04 c (.head _)).1 (h04 c (.head _)).2]
    exact pair_1 kind hz news l c tc [] nn tk t0 t1 s0 s1 hl
theorem kindN_or {kind : String} {ns : List Int} (hz : KindN kind ns) : kindL kind ∨ kind1 kind := hz.elim .inl fun h => .inr h.1
theorem code_c {kind : String} {news : List (Addr × Obj)} {l : Addr} {vs : List Value} {nn : Nat} {ns : List Int} {t : Tok} {x : Int} (hz : KindN kind ns) (hl : (l, listOf vs.toArray nn) ∈ news) (hi : IntsAre vs ns) (hn0 : 0 < ns.length) (hlen : ns.length ≤ 5) (hx : codeV kind ns = x) :
    Ct 2 162 [.str (Str.ofString kind) t, .ref l] news (isInt news x) := by
  rw [← hx]
  exact code_ct kind (kindN_or hz) news l vs nn ns t hl hi (List.length_pos_iff.mp hn0) hlen
theorem pick_due {prog : Program} {w : World} {A : Around} {E : Value → Shared → Prop} {s : Shared} {h₀ : Heap} {L : Addr} {value slice : PySem.Expr} {l a0 a1 a2 a3 : Addr} {n : Nat} {x s0 s1 p1 p2 : Int} {tx t0 u0 t1 u1 t3 u3 : Tok} {led : List (Addr × Obj)} {Q : Value → Shared → Prop}
    (N : News h₀ L s.heap led) (hl : (l, listOf #[.ref a0, .ref a1, .ref a2, .ref a3] n) ∈ led)
    (h0 : (a0, tupOf [.int (-s0) t0, .int (-s0) u0]) ∈ led) (h1 : (a1, tupOf [.int s1 t1, .int s1 u1]) ∈ led) (h3 : (a3, tupOf [.int (-s0) t3, .int s1 u3]) ∈ led)
    (hx : x = 0 ∨ x = 1 ∨ x = 3) (hp : drv x s0 s1 = (p1, p2))
    (k : ∀ a t u, News h₀ L s.heap ((a, tupOf [.int p1 t, .int p2 u]) :: led) → Q (.ref a) s)
    (hs : ∀ i : Int, subscripted slice false (.ref l) (.int i tx) = operate [.ref l, .int i tx] (getItem (.ref l) (.int i tx)) := by intro i; with_unfolding_all rfl) :
    wpAny (model prog w) A (subscriptTail value slice (.ref l) (.int x tx)) Q E s := by
  have add : ∀ {a : Addr} {t u : Tok}, (a, tupOf [.int p1 t, .int p2 u]) ∈ led → News h₀ L s.heap ((a, tupOf [.int p1 t, .int p2 u]) :: led) := fun hm => kst_newsOf N fun p hp => (List.mem_cons.mp hp).elim (fun h => h ▸ hm) id
  have hL : s.heap.IsList l #[.ref a0, .ref a1, .ref a2, .ref a3] := News.isList N hl
  rcases hx with rfl | rfl | rfl
  · obtain ⟨rfl, rfl⟩ := Prod.mk.inj ((show drv 0 s0 s1 = (-s0, -s0) from rfl).symm.trans hp)
    exact item_litK hL (by decide) (by decide) rfl (k a0 t0 u0 (add h0)) (hs 0)
  · obtain ⟨rfl, rfl⟩ := Prod.mk.inj ((show drv 1 s0 s1 = (s1, s1) from rfl).symm.trans hp)
    exact item_litK hL (by decide) (by decide) rfl (k a1 t1 u1 (add h1)) (hs 1)
  · obtain ⟨rfl, rfl⟩ := Prod.mk.inj ((show drv 3 s0 s1 = (-s0, s1) from rfl).symm.trans hp)
    exact item_litK hL (by decide) (by decide) rfl (k a3 t3 u3 (add h3)) (hs 3)
end Mine
namespace Mine
open PySem.Calls PySem.Spec
/-- a turn is over: the ledger stands, the names are as P says -/
inductive TEnd (h₀ : Heap) (L : Addr) (led : List (Addr × Obj)) (P : (Str → Option Value) → Prop) (s : Shared) : Flow → Shared → Prop
  | mk {m : Str → Option Value} {h : Heap} {tk : Nat} : Fr h₀ L h m → P m → News h₀ L h led → TEnd h₀ L led P s .next { s with heap := h, toks := tk }
section
variable {prog : Program} {w : World} {A : Around} {E : Value → Shared → Prop} {s : Shared} {env : Env} {h₀ : Heap}
/-- a for over a list of the ledger; each turn leaves the ledger as it was -/
theorem iterV {target : PySem.Expr} {body : List Stmt} {Q : Flow → Shared → Prop} {l : Addr} {vs : List Value} {nn : Nat} {m₀ : Str → Option Value} {led : List (Addr × Obj)} (P : (Str → Option Value) → Prop)
    (hh : A.handled = none) (hl : (l, listOf vs.toArray nn) ∈ led) (F : Fr h₀ env.locals s.heap m₀) (N : News h₀ env.locals s.heap led) (hj : P m₀)
    (turn : ∀ v m₁ s₁ I oI, v ∈ vs → P m₁ → Fr h₀ env.locals s₁.heap m₁ → News h₀ env.locals s₁.heap ((I, oI) :: led) →
      wpAny (model prog w) A (assign target env v) (fun _ s₃ => wpAny (model prog w) A (execs body env) (TEnd h₀ env.locals ((I, oI) :: led) P s₁) E s₃) E s₁)
    (done : ∀ m₁ h tk, P m₁ → Fr h₀ env.locals h m₁ → News h₀ env.locals h led → Q .next { s with heap := h, toks := tk }) :
    wpAny (model prog w) A (pyIter (.ref l)) (fun it s₂ => LoopAtT prog w A h₀ env target body Q E it s₂) E s := by
  have hol : s.heap.get? l = some (listOf vs.toArray nn) := (N _ hl).1
  have hls : s.heap.IsList l vs.toArray := ⟨_, hol, rfl, nn, rfl⟩
  have hne : l ≠ s.heap.objs.size := Nat.ne_of_lt (Heap.lt_size hol)
  refine wpAny_pyIter_list hls ?_
  have W := Walks.list (prog := prog) (w := w) hh s.heap.objs.size l hne vs.toArray
  refine ⟨_, _, _, vs.toArray.size, _, _, m₀, led, (fun _ m nx => nx = led ∧ P m), rfl, W, ?_, ?_, ?_, ⟨⟨_, Heap.get?_push_size _ rfl, rfl, rfl⟩, hls.at fun o e => Heap.get?_push_of_some _ e⟩, F.push _, (fun p hp => ⟨Heap.get?_push_of_some _ (N p hp).1, (N p hp).2⟩), (fun i s' v Q' st hQ' => letGo_listiter st.1 hQ'), ⟨rfl, hj⟩, ?_, ?_⟩
  · intro hm
    rcases List.mem_cons.mp hm with e | hm
    · exact absurd F.ns.lt (e ▸ Nat.lt_irrefl _)
    · exact (N _ hl).2.1 ((List.mem_singleton.mp hm).symm)
  · intro b hb
    rw [List.mem_singleton.mp hb]
    exact next_is_new F
  · intro p hp hI
    exact absurd (Heap.lt_size (N p hp).1) ((List.mem_singleton.mp hI) ▸ Nat.lt_irrefl _)
  · rintro i v m₁ news₁ s₁ own hin hPv ⟨rfl, hP⟩ hoff hown hget hfp hst F₁ N₁
    obtain ⟨oI, hoI, hcls, _⟩ := hst.1
    have hoff' : ∀ p ∈ news₁, p.1 ≠ s.heap.objs.size := fun p hp e => hoff p hp (by rw [e]; exact .head _)
    have hIown : (s.heap.objs.size, oI) ∈ own := hfp _ (.head _) (next_is_new F) _ hoI
    have N₂ : News h₀ env.locals s₁.heap ((s.heap.objs.size, oI) :: news₁) := fun p hp => by
      rcases List.mem_cons.mp hp with rfl | hp
      · exact N₁ _ (List.mem_append_left _ hIown)
      · exact N₁ _ (List.mem_append_right _ hp)
    have hlo : s₁.heap.get? l = some (listOf vs.toArray nn) := (N₂ _ (.tail _ hl)).1
    have hmem : v ∈ vs := by
      have : vs[i]? = some v := by simpa using hPv
      exact List.mem_of_getElem? this
    refine wpAny_mono (turn v m₁ s₁ s.heap.objs.size oI hmem hP F₁ N₂) (fun _ s₃ p => wpAny_mono p (fun f s₄ q => ?_) fun _ _ e => e) fun _ _ e => e
    cases q with
    | @mk m₂ h' tk' F' hP' N' =>
      refine ⟨rfl, h', tk', m₂, news₁, rfl, F', fun p hp => ?_, fun p hp hI => hoff' p hp (List.mem_singleton.mp hI), rfl, hP'⟩
      rcases List.mem_append.mp hp with hp | hp
      · rcases List.mem_cons.mp (hown p hp) with e | e
        · have g := hget p hp
          rw [e, hoI] at g
          have : p = (s.heap.objs.size, oI) := Prod.ext e (Option.some.inj g).symm
          rw [this]
          exact N' _ (.head _)
        · have e' := List.mem_singleton.mp e
          have g := hget p hp
          rw [e', hlo] at g
          have : p = (l, listOf vs.toArray nn) := Prod.ext e' (Option.some.inj g).symm
          rw [this]
          exact N' _ (.tail _ hl)
      · exact N' p (.tail _ hp)
  · rintro h' tk m' news' F' N' _ ⟨rfl, hP⟩
    exact done m' h' tk hP F' N'
end
end Mine
namespace Mine
local macro_rules | `(tactic| walk_at $s:str) => `(tactic| k_extra $s)
theorem upd2 {l b : Addr} {x o : Obj} (h : l < b) : UpdF l o [(b, x), (l, o)] (fun o' => [(b, x), (l, o')]) := .tail (Nat.ne_of_gt h) (.head fun _ h => nomatch h)
theorem row_in {w : World} {mean : ExcName → Option Value} {mg mb : Str → Option Value} {dp un : Nat} {gd : Option (List Code)} {cn : Str} {cs : Scope} {a : Addr} {ccd : Value} {cl : List (Str × Addr)} {outer : List Env}
    {A₀ : Around} {base h₀ : Heap} {L : Addr} {m : Str → Option Value} {s : Shared} {Q E : Value → Shared → Prop} {sc : Addr} {vs : List Value} {ns : List Int}
    (B : Below A₀ base outer h₀) (F : Fr h₀ L s.heap m) (X : (hd.heap_39 w.params).In h₀) (N : News h₀ L s.heap [])
    (T : Top hd.view_39 (looseW hd.view_39 [Str.ofString "GateloomError"]) mean mg mb h₀) (hk : cs.kind = .function) (hdp : dp + 1 < recursionLimit) (hun : un + 100 * 1 < cLine)
    (hsc : base.IsList sc vs.toArray) (hi : IntsAre vs ns) (hlen : ns.length ≤ 63)
    (hret : ∀ b us nn rs h' tk', IntsAre us rs → rs.length ≤ 160 → Fr h₀ L h' m → News h₀ L h' [(b, listOf us.toArray nn)] → Q (.ref b) { s with heap := h', toks := tk' }) :
    wpAny (model PySem.Challenge.rw_nn0296_01.row.prog w) (ktrTop dp un gd cn cs L a ccd cl outer) (call (.ref 131) [.ref sc]) Q E s :=
  row_ct w mean mg mb dp un gd cn cs a ccd cl outer A₀ base h₀ L m s Q E sc vs ns B F X N T hk hdp hun hsc hi hlen hret
theorem Ct.useBits {d : Nat} {f : Addr} {vs : List Value} {led : List (Addr × Obj)} {l : Addr} {ns : List Int} {wide : Int} {w : World} {mean : ExcName → Option Value} {mg mb : Str → Option Value} {dp un : Nat} {gd : Option (List Code)} {cn : Str} {cs : Scope} {a : Addr} {ccd : Value} {cl : List (Str × Addr)} {outer : List Env}
    {A₀ : Around} {base h₀ : Heap} {L : Addr} {m : Str → Option Value} {s : Shared} {Q E : Value → Shared → Prop}
    (B : Below A₀ base outer h₀) (F : Fr h₀ L s.heap m) (X : (hd.heap_39 w.params).In h₀) (N : News h₀ L s.heap led)
    (T : Top hd.view_39 (looseW hd.view_39 [Str.ofString "GateloomError"]) mean mg mb h₀) (hk : cs.kind = .function) (hdp : dp + d < recursionLimit) (hun : un + 100 * d < cLine) (C : Ct d f vs led (isBits l ns wide))
    (ret : ∀ b us mm bs vs nn h' tk', IntsAre us bs → (bs.length : Int) = wide → (∀ x ∈ bs, 0 ≤ x ∧ x < 4) → IntsAre vs ns.dropLast → l < b → Fr h₀ L h' m → News h₀ L h' [(b, listOf us.toArray mm), (l, listOf vs.toArray nn)] → Q (.ref b) { s with heap := h', toks := tk' }) :
    wpAny (model PySem.Challenge.rw_nn0296_01.row.prog w) (ktrTop dp un gd cn cs L a ccd cl outer) (call (.ref f) vs) Q E s := by
  refine C w mean mg mb dp un gd cn cs a ccd cl outer A₀ base h₀ L m s Q E B F X N T hk hdp hun ?_
  rintro v news' h' tk' ⟨b, us, mm, bs, vs, nn, rfl, rfl, h1, h2, h3, h4, h5⟩ F' N'
  exact ret b us mm bs vs nn h' tk' h1 h2 h3 h4 h5 F' N'
theorem wide_1 (n : Int) : 1 ≤ 1 + n.fmod 5 := by rw [Int.fmod_eq_emod_of_nonneg n (by decide)]; omega
theorem wide_5 (n : Int) : 1 + n.fmod 5 ≤ 5 := by rw [Int.fmod_eq_emod_of_nonneg n (by decide)]; omega
theorem Ct.useDuo {d : Nat} {f : Addr} {vs : List Value} {news : List (Addr × Obj)} {p : Int × Int} {w : World} {mean : ExcName → Option Value} {mg mb : Str → Option Value} {dp un : Nat} {gd : Option (List Code)} {cn : Str} {cs : Scope} {a : Addr} {ccd : Value} {cl : List (Str × Addr)} {outer : List Env}
    {A₀ : Around} {base h₀ : Heap} {L : Addr} {m : Str → Option Value} {s : Shared} {Q E : Value → Shared → Prop}
    (B : Below A₀ base outer h₀) (F : Fr h₀ L s.heap m) (X : (hd.heap_39 w.params).In h₀) (N : News h₀ L s.heap news)
    (T : Top hd.view_39 (looseW hd.view_39 [Str.ofString "GateloomError"]) mean mg mb h₀) (hk : cs.kind = .function) (hdp : dp + d < recursionLimit) (hun : un + 100 * d < cLine) (C : Ct d f vs news (isDuo news p))
    (ret : ∀ b t u h' tk', Fr h₀ L h' m → News h₀ L h' ((b, tupOf [.int p.1 t, .int p.2 u]) :: news) → Q (.ref b) { s with heap := h', toks := tk' }) :
    wpAny (model PySem.Challenge.rw_nn0296_01.row.prog w) (ktrTop dp un gd cn cs L a ccd cl outer) (call (.ref f) vs) Q E s := by
  refine C w mean mg mb dp un gd cn cs a ccd cl outer A₀ base h₀ L m s Q E B F X N T hk hdp hun ?_
  rintro v news' h' tk' ⟨b, t, u, rfl, rfl⟩ F' N'
  exact ret b t u h' tk' F' N'
theorem bits_hi {us : List Value} {bs : List Int} {n : Int} (hr : ∀ x ∈ bs, 0 ≤ x ∧ x < 4) (hw : (bs.length : Int) = 1 + n.fmod 5) (hi : IntsAre us bs) :
    ∃ c t us' bs', us = .int c t :: us' ∧ bs = c :: bs' ∧ IntsAre (.int c t :: us') (c :: bs') ∧ (c :: bs').length ≤ 5 ∧ 0 < (c :: bs').length ∧ (∀ x ∈ c :: bs', 0 ≤ x ∧ x < 4) ∧ 0 ≤ c ∧ c < 4 := by
  have h1 := wide_1 n
  have h5 := wide_5 n
  cases hi with
  | nil => simp at hw; omega
  | cons c t hi => exact ⟨c, t, _, _, rfl, rfl, .cons c t hi, by omega, by simp, hr, (hr c (.head _)).1, (hr c (.head _)).2⟩
/-- the names that the first loop stores -/
def M1 (m₀ : Str → Option Value) (m : Str → Option Value) : Prop :=
  ∃ od ou ok, m = fun y => if y = Str.ofString "due" then od else if y = Str.ofString "used" then ou else if y = Str.ofString "kind" then ok else m₀ y
theorem M1.start {m₀ : Str → Option Value} : M1 m₀ m₀ := ⟨m₀ (Str.ofString "due"), m₀ (Str.ofString "used"), m₀ (Str.ofString "kind"), by
  funext y
  by_cases h1 : y = Str.ofString "due"
  · rw [if_pos h1, h1]
  · by_cases h2 : y = Str.ofString "used"
    · rw [if_neg h1, if_pos h2, h2]
    · by_cases h3 : y = Str.ofString "kind"
      · rw [if_neg h1, if_neg h2, if_pos h3, h3]
      · rw [if_neg h1, if_neg h2, if_neg h3]⟩
theorem M1.step {m₀ : Str → Option Value} {a b c od ou ok : Option Value} :
    M1 m₀ (fun y => if y = Str.ofString "due" then a else if y = Str.ofString "used" then b else if y = Str.ofString "kind" then c else
      if y = Str.ofString "due" then od else if y = Str.ofString "used" then ou else if y = Str.ofString "kind" then ok else m₀ y) := ⟨a, b, c, by
  funext y
  by_cases h1 : y = Str.ofString "due"
  · simp only [if_pos h1]
  · by_cases h2 : y = Str.ofString "used"
    · simp only [if_neg h1, if_pos h2]
    · by_cases h3 : y = Str.ofString "kind"
      · simp only [if_neg h1, if_neg h2, if_pos h3]
      · simp only [if_neg h1, if_neg h2, if_neg h3]⟩
theorem keep2 {a b : Addr × Obj} {l : List (Addr × Obj)} : ∀ p ∈ [a, b], p ∈ a :: b :: l := fun p hp => by
  rcases List.mem_cons.mp hp with rfl | hp
  · exact .head _
  · rw [List.mem_singleton.mp hp]; exact .tail _ (.head _)
theorem mod8 {prog : Program} {w : World} {A : Around} {E : Value → Shared → Prop} {s : Shared} {n : Int} {t u : Tok} {Q : Value → Shared → Prop} (h : ∀ r : Int, 0 ≤ r → r < 8 → Q (.int r s.toks) { s with toks := s.toks + 1 }) :
    wpAny (model prog w) A (binaryOp .Mod (.int n t) (.int 8 u)) Q E s :=
  mod_int' (by decide) (h _ (by rw [Int.fmod_eq_emod_of_nonneg n (by decide)]; omega) (by rw [Int.fmod_eq_emod_of_nonneg n (by decide)]; omega))
theorem ne_same {prog : Program} {w : World} {A : Around} {E : Value → Shared → Prop} {s : Shared} {x : Int} {t u : Tok} {Q : Value → Shared → Prop} (h : Q (.bool false) s) : wpAny (model prog w) A (compareOp .NotEq (.int x t) (.int x u)) Q E s :=
  ne_int (by rw [bne_self_eq_false]; exact h)
theorem tail8 {a b c d e f g h : Addr × Obj} {l : List (Addr × Obj)} : ∀ p ∈ l, p ∈ a :: b :: c :: d :: e :: f :: g :: h :: l := fun _ hp => .tail _ (.tail _ (.tail _ (.tail _ (.tail _ (.tail _ (.tail _ (.tail _ hp)))))))
theorem tail9 {a b c d e f g h i : Addr × Obj} {l : List (Addr × Obj)} : ∀ p ∈ l, p ∈ a :: b :: c :: d :: e :: f :: g :: h :: i :: l := fun _ hp => .tail _ (tail8 _ hp)
theorem last_mem {c : Int} {bs : List Int} : (c :: bs).getD (-1 + ((c :: bs).length : Int)).toNat 0 ∈ c :: bs := by
  have h : (-1 + ((c :: bs).length : Int)).toNat < (c :: bs).length := by simp only [List.length_cons]; omega
  rw [List.getD_eq_getElem?_getD, List.getElem?_eq_getElem h]
  exact List.getElem_mem h
/-- the names that the second loop stores -/
def M2 (m₀ : Str → Option Value) (m : Str → Option Value) : Prop :=
  ∃ od ok, m = fun y => if y = Str.ofString "due" then od else if y = Str.ofString "kind" then ok else m₀ y
theorem M2.start {m₀ : Str → Option Value} : M2 m₀ m₀ := ⟨m₀ (Str.ofString "due"), m₀ (Str.ofString "kind"), by
  funext y
  by_cases h1 : y = Str.ofString "due"
  · rw [if_pos h1, h1]
  · by_cases h3 : y = Str.ofString "kind"
    · rw [if_neg h1, if_pos h3, h3]
    · rw [if_neg h1, if_neg h3]⟩
theorem M2.step {m₀ : Str → Option Value} {a c od ok : Option Value} :
    M2 m₀ (fun y => if y = Str.ofString "due" then a else if y = Str.ofString "kind" then c else
      if y = Str.ofString "due" then od else if y = Str.ofString "kind" then ok else m₀ y) := ⟨a, c, by
  funext y
  by_cases h1 : y = Str.ofString "due"
  · simp only [if_pos h1]
  · by_cases h3 : y = Str.ofString "kind"
    · simp only [if_neg h1, if_pos h3]
    · simp only [if_neg h1, if_neg h3]⟩
theorem keep13 {a b c : Addr × Obj} : ∀ p ∈ [a, c], p ∈ [a, b, c] := fun p hp => by
  rcases List.mem_cons.mp hp with rfl | hp
  · exact .head _
  · rw [List.mem_singleton.mp hp]; exact .tail _ (.tail _ (.head _))
section
variable {kind : String} {news : List (Addr × Obj)} {d c s0 s1 : Int} {tk td tc t0 t1 : Tok} {p : Int × Int}
theorem forces_c (h3 : kind3 kind) (hd0 : 0 ≤ d) (hd4 : d < 4) (hc0 : 0 ≤ c) (hc4 : c < 4) (h0 : 0 ≤ s0) (h1 : 0 ≤ s1) (hb0 : s0 < 8) (hb1 : s1 < 8) (hp : triV kind d c s0 s1 = p) :
    Ct 1 169 [.str (Str.ofString kind) tk, .int d td, .int c tc, .int s0 t0, .int s1 t1] news (isDuo news p) := by
  rw [← hp]; exact forces_ct kind h3 news d c s0 s1 tk td tc t0 t1 hd0 hd4 hc0 hc4 h0 h1 hb0 hb1
theorem tri_c (h3 : kind3 kind) (hp : triV kind d c s0 s1 = p) : Ct 3 117 [.str (Str.ofString kind) tk, .int d td, .int c tc, .int s0 t0, .int s1 t1] news (isPair news p) := by
  rw [← hp]; exact tri_ct kind h3 news d c s0 s1 tk td tc t0 t1
theorem pair_3c {l : Addr} {nn : Nat} (h3 : kind3 kind) (hp : triV kind d c s0 s1 = p) (hl : (l, listOf [Value.int d td, Value.int c tc].toArray nn) ∈ news) :
    Ct 4 124 [.str (Str.ofString kind) tk, .ref l, .int s0 t0, .int s1 t1] news (isPair news p) := by
  rw [← hp]; exact pair_3 kind h3 news l d c td tc nn tk t0 t1 s0 s1 hl
end
theorem tail4 {a b c d : Addr × Obj} {l : List (Addr × Obj)} : ∀ p ∈ l, p ∈ a :: b :: c :: d :: l := fun _ hp => .tail _ (.tail _ (.tail _ (.tail _ hp)))
theorem kinds8 {v : Value} {a b c d e f g h : Tok} (hv : v ∈ [Value.str (Str.ofString "and") a, Value.str (Str.ofString "nand") b, Value.str (Str.ofString "or") c, Value.str (Str.ofString "nor") d, Value.str (Str.ofString "xor") e, Value.str (Str.ofString "xnor") f, Value.str (Str.ofString "buf") g, Value.str (Str.ofString "not") h]) :
    ∃ kind t, v = Value.str (Str.ofString kind) t ∧ ((kindL kind ∧ ([Str.ofString "buf", Str.ofString "not"].any fun x => x == Str.ofString kind) = false) ∨ (kind1 kind ∧ ([Str.ofString "buf", Str.ofString "not"].any fun x => x == Str.ofString kind) = true)) := by
  simp only [List.mem_cons, List.not_mem_nil, or_false] at hv
  unfold kindL kind1
  rcases hv with rfl | rfl | rfl | rfl | rfl | rfl | rfl | rfl
  · exact ⟨_, _, rfl, .inl ⟨.inl rfl, by decide +kernel⟩⟩
  · exact ⟨_, _, rfl, .inl ⟨.inr (.inl rfl), by decide +kernel⟩⟩
  · exact ⟨_, _, rfl, .inl ⟨.inr (.inr (.inl rfl)), by decide +kernel⟩⟩
  · exact ⟨_, _, rfl, .inl ⟨.inr (.inr (.inr (.inl rfl))), by decide +kernel⟩⟩
  · exact ⟨_, _, rfl, .inl ⟨.inr (.inr (.inr (.inr (.inl rfl)))), by decide +kernel⟩⟩
  · exact ⟨_, _, rfl, .inl ⟨.inr (.inr (.inr (.inr (.inr rfl)))), by decide +kernel⟩⟩
  · exact ⟨_, _, rfl, .inr ⟨.inl rfl, by decide +kernel⟩⟩
  · exact ⟨_, _, rfl, .inr ⟨.inr rfl, by decide +kernel⟩⟩
theorem kinds6 {v : Value} {a b c d e f : Tok} (hv : v ∈ [Value.str (Str.ofString "bufif0") a, Value.str (Str.ofString "bufif1") b, Value.str (Str.ofString "notif0") c, Value.str (Str.ofString "notif1") d, Value.str (Str.ofString "nmos") e, Value.str (Str.ofString "pmos") f]) :
    ∃ kind t, v = Value.str (Str.ofString kind) t ∧ kind3 kind := by
  simp only [List.mem_cons, List.not_mem_nil, or_false] at hv
  unfold kind3
  rcases hv with rfl | rfl | rfl | rfl | rfl | rfl
  · exact ⟨_, _, rfl, .inl rfl⟩
  · exact ⟨_, _, rfl, .inr (.inl rfl)⟩
  · exact ⟨_, _, rfl, .inr (.inr (.inl rfl))⟩
  · exact ⟨_, _, rfl, .inr (.inr (.inr (.inl rfl)))⟩
  · exact ⟨_, _, rfl, .inr (.inr (.inr (.inr (.inl rfl))))⟩
  · exact ⟨_, _, rfl, .inr (.inr (.inr (.inr (.inr rfl))))⟩
theorem cw : PySem.Challenge.rw_nn0296_01.Holds := hd (by
  k_with_none
  k_with "call ref" => (k_here; (with_reducible show wpAny _ _ (call (Value.ref 131) _) _ _ _); k_dflt (refine row_in (by k_asm) (by k_asm) (by k_asm) (by k_asm) (by k_asm) (by first | exact rfl | assumption) (by ktr_room) (by ktr_units) (by assumption) (by assumption) (by omega) ?_); intro b9 us9 nn9 rs9 h9 tk9 hi9 hz9 F9 N9; (try dsimp only); (try k_fold))
  k_with "call ref" => (k_here; (with_reducible show wpAny _ _ (call (Value.ref 138) _) _ _ _); k_dflt (refine Ct.usePop (by k_asm) (by k_asm) (by k_asm) (by k_asm) (by k_asm) (by first | exact rfl | assumption) (by ktr_room) (by ktr_units) (next_in (by first | exact upd2 (by assumption) | k_updF) (by assumption) (by first | assumption | omega | (simp only [List.length_dropLast]; omega))) ?_); intro t9 us9 nn9 h9 tk9 hi9 F9 N9; (try dsimp only at N9); (try dsimp only); (try k_fold))
  k_with "call ref" => (k_here; (with_reducible show wpAny _ _ (call (Value.ref 145) _) _ _ _); k_dflt (refine Ct.useBits (by k_asm) (by k_asm) (by k_asm) (by k_asm) (by k_asm) (by first | exact rfl | assumption) (by ktr_room) (by ktr_units) (bits_ct _ _ _ _ _ _ (by assumption) (by first | assumption | omega | (simp only [List.length_dropLast]; omega)) (by exact wide_1 _) (by exact wide_5 _)) ?_); intro b9 us9 mm9 bs9 vs9 nn9 h9 tk9 hi9 hw9 hr9 hj9 l9 F9 N9; (try dsimp only); (try k_fold))
  k_with "mine step" => (first | (k_unfold; (try dsimp only)) | (k_end; wrow_close) | walk1 | (dsimp only; walk1) | (leave1; walk_say "STEP leave1"; try dsimp only))
  k_with "call ref" => (k_here; (with_reducible show wpAny _ _ (call (Value.ref 162) _) _ _ _); k_dflt (refine Ct.useInt (by k_asm) (by k_asm) (by k_asm) (by k_asm) (by k_asm) (by first | exact rfl | assumption) (by ktr_room) (by ktr_units) (code_c (by assumption) (by first | assumption | k_mem) (by assumption) (by assumption) (by assumption) (by assumption)) ?_); intro t9 h9 tk9 F9 N9; (try dsimp only); (try k_fold))
  k_with "call ref" => (k_here; (with_reducible show wpAny _ _ (call (Value.ref 89) _) _ _ _); k_dflt (refine Ct.useInt (by k_asm) (by k_asm) (by k_asm) (by k_asm) (by k_asm) (by first | exact rfl | assumption) (by ktr_room) (by ktr_units) (gate_c (by assumption) (by first | assumption | k_mem) (by assumption) (by assumption) (by assumption)) ?_); intro t9 h9 tk9 F9 N9; (try dsimp only); (try k_fold))
  k_with "call ref" => (k_here; (with_reducible show wpAny _ _ (call (Value.ref 124) _) _ _ _); k_dflt (refine Ct.usePair (by k_asm) (by k_asm) (by k_asm) (by k_asm) (by k_asm) (by first | exact rfl | assumption) (by ktr_room) (by ktr_units) (pair_c (by assumption) (by first | assumption | k_mem) (by assumption) (by assumption) (by assumption) (by assumption)) ?_); intro b9 t9 u9 h9 tk9 l9 F9 N9; (try dsimp only); (try k_fold))
  k_with "subscriptTail" => (k_here; (with_reducible show wpAny _ _ (subscriptTail _ _ (Value.ref _) (Value.int _ _)) _ _ _); (rename News _ _ _ _ => lN9); k_dflt (refine pick_due lN9 (by k_dflt (k_mem)) (by k_dflt (k_mem)) (by k_dflt (k_mem)) (by k_dflt (k_mem)) (by k_dflt (assumption)) (by k_dflt (assumption)) ?_ (by k_dflt ((intro i; with_unfolding_all rfl)))); clear lN9; intro a9 t9 u9 N9)
  k_with "compareOp NotEq int int" => (with_reducible refine ne_same ?_)
  k_with "mine end1" => ((rename Fr _ _ _ _ => lF'); (rename News _ _ _ _ => lN'); first | exact TEnd.mk lF' M1.step (kst_newsOf lN' tail8) | exact TEnd.mk lF' M1.step (kst_newsOf lN' tail9))
  k_with "subscriptTail" => (k_here; (with_reducible show wpAny _ _ (subscriptTail _ _ (Value.ref _) (Value.int 0 _)) _ _ _); (with_unfolding_all refine item_litK (by k_dflt (exact News.isList (by assumption) (by k_mem))) (by k_dflt (decide)) (by k_dflt (decide)) (by k_dflt (rfl)) ?_ (by k_dflt (with_unfolding_all rfl))); k_whole)
  k_with "call ref" => (k_here; (with_reducible show wpAny _ _ (call (Value.ref 169) _) _ _ _); k_dflt (refine Ct.useDuo (by k_asm) (by k_asm) (by k_asm) (by k_asm) (by k_asm) (by first | exact rfl | assumption) (by ktr_room) (by ktr_units) (forces_c (by assumption) (by assumption) (by assumption) (by assumption) (by assumption) (by assumption) (by assumption) (by assumption) (by assumption) (by assumption)) ?_); intro b9 t9 u9 h9 tk9 F9 N9; (try dsimp only); (try k_fold))
  k_with "call ref" => (k_here; (with_reducible show wpAny _ _ (call (Value.ref 117) _) _ _ _); k_dflt (refine Ct.usePair (by k_asm) (by k_asm) (by k_asm) (by k_asm) (by k_asm) (by first | exact rfl | assumption) (by ktr_room) (by ktr_units) (tri_c (by assumption) (by assumption)) ?_); intro b9 t9 u9 h9 tk9 l9 F9 N9; (try dsimp only); (try k_fold))
  k_with "call ref" => (k_here; (with_reducible show wpAny _ _ (call (Value.ref 124) (Value.str (Str.ofString "pulldown") _ :: _)) _ _ _); k_dflt (refine Ct.usePair (by k_asm) (by k_asm) (by k_asm) (by k_asm) (by k_asm) (by first | exact rfl | assumption) (by ktr_room) (by ktr_units) (down_ct _ _ _ _ _ _ _) ?_); intro b9 t9 u9 h9 tk9 l9 F9 N9; (try dsimp only); (try k_fold))
  k_with "call ref" => (k_here; (with_reducible show wpAny _ _ (call (Value.ref 124) (Value.str (Str.ofString "pullup") _ :: _)) _ _ _); k_dflt (refine Ct.usePair (by k_asm) (by k_asm) (by k_asm) (by k_asm) (by k_asm) (by first | exact rfl | assumption) (by ktr_room) (by ktr_units) (up_ct _ _ _ _ _ _ _) ?_); intro b9 t9 u9 h9 tk9 l9 F9 N9; (try dsimp only); (try k_fold))
  k_with "call ref" => (k_here; (with_reducible show wpAny _ _ (call (Value.ref 124) _) _ _ _); k_dflt (refine Ct.usePair (by k_asm) (by k_asm) (by k_asm) (by k_asm) (by k_asm) (by first | exact rfl | assumption) (by ktr_room) (by ktr_units) (pair_3c (by assumption) (by assumption) (by first | assumption | k_mem)) ?_); intro b9 t9 u9 h9 tk9 l9 F9 N9; (try dsimp only); (try k_fold))
  k_with "mine end2" => ((rename Fr _ _ _ _ => lF'); (rename News _ _ _ _ => lN'); exact TEnd.mk lF' M2.step (kst_newsOf lN' tail4))
  k_go0
  (all_goals try k_fold)
  iterate 55 (walk_at "mine step")
  refine mod8 fun s0 hs00 hs08 => ?_
  (try dsimp only)
  iterate 15 (walk_at "mine step")
  refine mod8 fun s1 hs10 hs18 => ?_
  (try dsimp only)
  iterate 3 (walk_at "mine step")
  (rename (∀ x : Int, x ∈ _ → 0 ≤ x ∧ x < 4) => hr9)
  (rename ((List.length _ : Int) = 1 + _) => hw9)
  obtain ⟨c0, t0, us8, bs8, rfl, rfl, hi8, hlen8, hn8, h048, hc0, hc4⟩ := bits_hi hr9 hw9 (by assumption)
  (rename Fr _ _ _ _ => lF')
  (with_unfolding_all refine For_invTF lF' ?_ (fun _ => rfl))
  iterate 19 (walk_at "mine step")
  (rename Fr _ _ _ _ => lF')
  (rename News _ _ _ _ => lN')
  (with_unfolding_all refine iterV (M1 _) rfl (.head _) lF' (kst_newsOf lN' keep2) M1.start ?turn ?done)
  (case done =>
    clear lF' lN'
    rintro m₁ h₁ tk₁ ⟨od, ou, ok, rfl⟩ F₁ N₁
    dsimp only
    iterate 9 (walk_at "mine step")
    (rename Fr _ _ _ _ => lF9)
    obtain ⟨hc10, hc14⟩ := h048 _ (last_mem (c := c0) (bs := bs8))
    generalize (c0 :: bs8).getD (-1 + ((c0 :: bs8).length : Int)).toNat 0 = c1 at lF9 hc10 hc14
    iterate 2 (walk_at "mine step")
    (with_unfolding_all refine For_invTF lF9 ?_ (fun _ => rfl))
    iterate 15 (walk_at "mine step")
    (rename Fr _ _ _ _ => lF')
    (rename News _ _ _ _ => lN')
    (with_unfolding_all refine iterV (M2 _) rfl (.head _) lF' (kst_newsOf lN' keep13) M2.start ?turn2 ?done2)
    (case done2 =>
      clear lF' lN'
      rintro m₁ h₁ tk₁ ⟨od, ok, rfl⟩ F₁ N₁
      dsimp only
      k_steps)
    clear lF' lN'
    rintro v m₁ s₁ I oI hv ⟨od, ok, rfl⟩ F₁ N₁
    obtain ⟨kind, tk, rfl, hz⟩ := kinds6 hv
    obtain ⟨⟨p1, p2⟩, hp⟩ : ∃ p, triV kind c0 c1 s0 s1 = p := ⟨_, rfl⟩
    refine wpAny_assign_Name ?_
    k_steps
    walk_at "mine end2"
    )
  clear lF' lN'
  rintro v m₁ s₁ I oI hv ⟨od, ou, ok, rfl⟩ F₁ N₁
  obtain ⟨kind, tk, rfl, hkk⟩ := kinds8 hv
  rcases hkk with ⟨hzl, hB⟩ | ⟨hz1, hB⟩
  · have hz : KindN kind (c0 :: bs8) := .inl hzl
    obtain ⟨x, hx⟩ : ∃ x, codeV kind (c0 :: bs8) = x := ⟨_, rfl⟩
    have hx3 : x = 0 ∨ x = 1 ∨ x = 3 := hx ▸ code_013 (kindN_or hz) (List.cons_ne_nil _ _) fun n hn => (h048 n hn).1
    obtain ⟨⟨p1, p2⟩, hp⟩ : ∃ p, drv x s0 s1 = p := ⟨_, rfl⟩
    refine wpAny_assign_Name ?_
    k_steps
    walk_at "mine end1"
  · have hz : KindN kind [c0] := .inr ⟨hz1, rfl⟩
    obtain ⟨x, hx⟩ : ∃ x, codeV kind [c0] = x := ⟨_, rfl⟩
    have hi1 : IntsAre [Value.int c0 t0] [c0] := .cons _ _ .nil
    have h041 : ∀ n ∈ [c0], 0 ≤ n ∧ n < 4 := fun n hn => h048 n (by rw [List.mem_singleton.mp hn]; exact .head _)
    have hl1 : [c0].length ≤ 5 := by simp
    have hn1 : 0 < [c0].length := by simp
    have hx3 : x = 0 ∨ x = 1 ∨ x = 3 := hx ▸ code_013 (kindN_or hz) (List.cons_ne_nil _ _) fun n hn => (h041 n hn).1
    obtain ⟨⟨p1, p2⟩, hp⟩ : ∃ p, drv x s0 s1 = p := ⟨_, rfl⟩
    refine wpAny_assign_Name ?_
    k_steps
    walk_at "mine end1"
    )
end Mine
theorem PySem.Challenge.cw_nn0296_01_holds : PySem.Challenge.rw_nn0296_01.Holds := by
  exact Mine.cw
