import PyProof.Rows.All
import Wide.All
import OpenK.AllK
import Wide.FinOn
import KE.IntBitsLaws
import Lean
import PySem.Challenge.RW_nu0005_01
/- The law of split. How the proof goes: a layer of big steps over the library's rules (an expression, a test, a statement, a loop's
items, a comprehension: Ev, Tst, Ex, Trn, Itr), each told of a frame (Cx), its names (a list) and a ledger of the objects made; one
contract (Con) for each def of the text; the law's own frame (law_p) built from the head's facts (law_enter); and plain laws over Rat
(de Casteljau's rows are the Bernstein sum; cut, raised and reversed curves; the rate), which say that every answer is True. -/
open PySem PySem.W PyProof.Rows
set_option Elab.async false
set_option maxRecDepth 100000
set_option maxHeartbeats 8000000
namespace Mine
open_top hd for PySem.Challenge.rw_nu0005_01
end Mine
section
namespace Mine
open PySem Builtin.Int
theorem num_fr {a b : Int} (hb : 0 < b) : a.fdiv (Int.gcd a b : Nat) = (Rat.divInt a b).num := by
  rw [Rat.num_divInt, Int.sign_eq_one_of_pos hb, Int.one_mul, Int.gcd_comm]
  exact Int.fdiv_eq_ediv_of_nonneg _ (Int.natCast_nonneg _)
theorem den_fr {a b : Int} (hb : 0 < b) : b.fdiv (Int.gcd a b : Nat) = ((Rat.divInt a b).den : Int) := by
  rw [Rat.den_divInt, if_neg (by omega), Int.gcd_comm, Int.fdiv_eq_ediv_of_nonneg _ (Int.natCast_nonneg _)]
  rw [Int.natCast_ediv, Int.natAbs_of_nonneg (by omega)]
theorem gcd_pos {a b : Int} (hb : 0 < b) : 0 < ((Int.gcd a b : Nat) : Int) := by
  have := Int.gcd_pos_of_ne_zero_right a (show b ≠ 0 by omega)
  omega
theorem den_pos (q : Rat) : 0 < (q.den : Int) := by have := q.den_pos; omega
theorem plus_q (a b : Rat) : Rat.divInt (a.num * b.den + b.num * a.den) (a.den * b.den) = a + b := by
  rw [Rat.add_def', ← Rat.divInt_ofNat]; simp
theorem minus_q (a b : Rat) : Rat.divInt (a.num * b.den - b.num * a.den) (a.den * b.den) = a - b := by
  rw [Rat.sub_def', ← Rat.divInt_ofNat]; simp
theorem times_q (a b : Rat) : Rat.divInt (a.num * b.num) (a.den * b.den) = a * b := by
  rw [Rat.mul_def', ← Rat.divInt_ofNat]; simp

/-- small: numerator and denominator have at most m bits -/
def Sm (m : Nat) (q : Rat) : Prop := intBits q.num ≤ m ∧ intBits (q.den : Int) ≤ m
theorem Sm.le {m n : Nat} {q : Rat} (h : Sm m q) (k : m ≤ n) : Sm n q := ⟨Nat.le_trans h.1 k, Nat.le_trans h.2 k⟩
theorem natAbs_fdiv_le {a b : Int} (hb : 0 < b) : (a.fdiv (Int.gcd a b : Nat)).natAbs ≤ a.natAbs := by
  rw [num_fr hb, Rat.num_divInt, Int.sign_eq_one_of_pos hb, Int.one_mul]
  exact Int.natAbs_ediv_le_natAbs _ _
theorem sm_fr {a b : Int} {m : Nat} (hb : 0 < b) (ha : intBits a ≤ m) (hb' : intBits b ≤ m) : Sm m (Rat.divInt a b) := by
  refine ⟨intBits_le_of_natAbs ?_ ha, intBits_le_of_natAbs ?_ hb'⟩
  · rw [← num_fr hb]; exact natAbs_fdiv_le hb
  · rw [← den_fr hb, Int.fdiv_eq_ediv_of_nonneg _ (Int.natCast_nonneg _)]
    exact Int.natAbs_ediv_le_natAbs _ _
theorem sm_mul {m n : Nat} {a b : Rat} (ha : Sm m a) (hb : Sm n b) : Sm (m + n) (a * b) := by
  rw [← times_q]
  exact sm_fr (Int.mul_pos (den_pos a) (den_pos b)) (intBits_mul_le ha.1 hb.1) (intBits_mul_le ha.2 hb.2)
theorem sm_add {m n : Nat} {a b : Rat} (ha : Sm m a) (hb : Sm n b) : Sm (m + n + 1) (a + b) := by
  rw [← plus_q]
  refine sm_fr (Int.mul_pos (den_pos a) (den_pos b)) ?_ (Nat.le_succ_of_le (intBits_mul_le ha.2 hb.2))
  have := intBits_add_le (intBits_mul_le ha.1 hb.2) (intBits_mul_le hb.1 ha.2)
  omega
theorem sm_sub {m n : Nat} {a b : Rat} (ha : Sm m a) (hb : Sm n b) : Sm (m + n + 1) (a - b) := by
  rw [← minus_q]
  refine sm_fr (Int.mul_pos (den_pos a) (den_pos b)) ?_ (Nat.le_succ_of_le (intBits_mul_le ha.2 hb.2))
  have := intBits_sub_le (intBits_mul_le ha.1 hb.2) (intBits_mul_le hb.1 ha.2)
  omega
end Mine

end
section
set_option linter.unusedVariables false
open PySem PySem.W PyProof.Rows PySem.Calls
set_option Elab.async false
set_option maxRecDepth 100000
set_option maxHeartbeats 1000000
namespace Mine
/-- n-fold exists and and: taking one apart is one step -/
inductive Som2 {A1 A2 : Type} (p : A1 → A2 → Prop) : Prop where
  | mk (x1 : A1) (x2 : A2) (h : p x1 x2) : Som2 p
inductive Som3 {A1 A2 A3 : Type} (p : A1 → A2 → A3 → Prop) : Prop where
  | mk (x1 : A1) (x2 : A2) (x3 : A3) (h : p x1 x2 x3) : Som3 p
inductive Som4 {A1 A2 A3 A4 : Type} (p : A1 → A2 → A3 → A4 → Prop) : Prop where
  | mk (x1 : A1) (x2 : A2) (x3 : A3) (x4 : A4) (h : p x1 x2 x3 x4) : Som4 p
inductive Som5 {A1 A2 A3 A4 A5 : Type} (p : A1 → A2 → A3 → A4 → A5 → Prop) : Prop where
  | mk (x1 : A1) (x2 : A2) (x3 : A3) (x4 : A4) (x5 : A5) (h : p x1 x2 x3 x4 x5) : Som5 p
inductive Som6 {A1 A2 A3 A4 A5 A6 : Type} (p : A1 → A2 → A3 → A4 → A5 → A6 → Prop) : Prop where
  | mk (x1 : A1) (x2 : A2) (x3 : A3) (x4 : A4) (x5 : A5) (x6 : A6) (h : p x1 x2 x3 x4 x5 x6) : Som6 p
inductive Som7 {A1 A2 A3 A4 A5 A6 A7 : Type} (p : A1 → A2 → A3 → A4 → A5 → A6 → A7 → Prop) : Prop where
  | mk (x1 : A1) (x2 : A2) (x3 : A3) (x4 : A4) (x5 : A5) (x6 : A6) (x7 : A7) (h : p x1 x2 x3 x4 x5 x6 x7) : Som7 p
inductive Som8 {A1 A2 A3 A4 A5 A6 A7 A8 : Type} (p : A1 → A2 → A3 → A4 → A5 → A6 → A7 → A8 → Prop) : Prop where
  | mk (x1 : A1) (x2 : A2) (x3 : A3) (x4 : A4) (x5 : A5) (x6 : A6) (x7 : A7) (x8 : A8) (h : p x1 x2 x3 x4 x5 x6 x7 x8) : Som8 p
inductive Amd3 (p1 p2 p3 : Prop) : Prop where
  | mk (h1 : p1) (h2 : p2) (h3 : p3) : Amd3 p1 p2 p3
inductive Amd4 (p1 p2 p3 p4 : Prop) : Prop where
  | mk (h1 : p1) (h2 : p2) (h3 : p3) (h4 : p4) : Amd4 p1 p2 p3 p4
inductive Amd5 (p1 p2 p3 p4 p5 : Prop) : Prop where
  | mk (h1 : p1) (h2 : p2) (h3 : p3) (h4 : p4) (h5 : p5) : Amd5 p1 p2 p3 p4 p5
inductive Amd6 (p1 p2 p3 p4 p5 p6 : Prop) : Prop where
  | mk (h1 : p1) (h2 : p2) (h3 : p3) (h4 : p4) (h5 : p5) (h6 : p6) : Amd6 p1 p2 p3 p4 p5 p6
inductive Amd7 (p1 p2 p3 p4 p5 p6 p7 : Prop) : Prop where
  | mk (h1 : p1) (h2 : p2) (h3 : p3) (h4 : p4) (h5 : p5) (h6 : p6) (h7 : p7) : Amd7 p1 p2 p3 p4 p5 p6 p7
inductive Amd8 (p1 p2 p3 p4 p5 p6 p7 p8 : Prop) : Prop where
  | mk (h1 : p1) (h2 : p2) (h3 : p3) (h4 : p4) (h5 : p5) (h6 : p6) (h7 : p7) (h8 : p8) : Amd8 p1 p2 p3 p4 p5 p6 p7 p8
inductive Amd9 (p1 p2 p3 p4 p5 p6 p7 p8 p9 : Prop) : Prop where
  | mk (h1 : p1) (h2 : p2) (h3 : p3) (h4 : p4) (h5 : p5) (h6 : p6) (h7 : p7) (h8 : p8) (h9 : p9) : Amd9 p1 p2 p3 p4 p5 p6 p7 p8 p9

end Mine

end
section
open PySem PySem.W PyProof.Rows PySem.Calls
set_option Elab.async false
set_option maxRecDepth 100000 
set_option maxHeartbeats 8000000 
namespace Mine
def Con (w : World) (mean : ExcName → Option Value) (mg mb : Str → Option Value) (cost : Nat) (f : Addr) (news : List (Addr × Obj)) (vs : List Value) (post : Value → List (Addr × Obj) → Prop) : Prop :=
  ∀ (dp un : Nat) (gd : Option (List Code)) (cn : Str) (cs : Scope) (a : Addr) (ccd : Value) (cl : List (Str × Addr)) (outer : List Env) (A₀ : Around) (base h₀ : Heap) (L : Addr) (m : Str → Option Value) (s : Shared) (Q E : Value → Shared → Prop),
   Below A₀ base outer h₀ → Fr h₀ L s.heap m → (hd.heap_39 w.params).In h₀ → News h₀ L s.heap news → Top hd.view_39 (looseW hd.view_39 [Str.ofString "fraction"]) mean mg mb h₀ → cs.kind = .function → dp + cost < recursionLimit → un + 8 * cost < cLine →
   (∀ r news' h' tk', Fr h₀ L h' m → News h₀ L h' news' → post r news' → Q r { s with heap := h', toks := tk' }) →
   wpAny (model PySem.Challenge.rw_nu0005_01.row.prog w) (ktrTop dp un gd cn cs L a ccd cl outer) (call (.ref f) vs) Q E s
end Mine

end
section
open PySem PySem.W PyProof.Rows PySem.Calls
set_option Elab.async false
set_option maxRecDepth 100000 
set_option maxHeartbeats 8000000 
namespace Mine
theorem con_use {w : World} {mean : ExcName → Option Value} {mg mb : Str → Option Value} {cost : Nat} {f : Addr} {news : List (Addr × Obj)} {vs : List Value} {post : Value → List (Addr × Obj) → Prop}
  {dp un : Nat} {gd : Option (List Code)} {cn : Str} {cs : Scope} {a : Addr} {ccd : Value} {cl : List (Str × Addr)} {outer : List Env} {A₀ : Around} {base h₀ : Heap} {L : Addr} {m : Str → Option Value} {s : Shared} {Q E : Value → Shared → Prop}
  (C : Con w mean mg mb cost f news vs post)
  (B : Below A₀ base outer h₀) (F : Fr h₀ L s.heap m) (X : (hd.heap_39 w.params).In h₀) (N : News h₀ L s.heap news) (T : Top hd.view_39 (looseW hd.view_39 [Str.ofString "fraction"]) mean mg mb h₀) (hk : cs.kind = .function) (hd : dp + cost < recursionLimit) (hu : un + 8 * cost < cLine)
  (ret : ∀ r news' h' tk', Fr h₀ L h' m → News h₀ L h' news' → post r news' → Q r { s with heap := h', toks := tk' }) :
   wpAny (model PySem.Challenge.rw_nu0005_01.row.prog w) (ktrTop dp un gd cn cs L a ccd cl outer) (call (.ref f) vs) Q E s := C _ _ _ _ _ _ _ _ _ _ _ _ _ _ _ _ _ B F X N T hk hd hu ret

noncomputable abbrev tupO (vs : Array Value) (c : Nat) : Obj := { cls := .type "tuple", data := .seq vs c }
noncomputable abbrev frO (q : Rat) (t1 t2 : Tok) (c : Nat) : Obj := { cls := .type "tuple", data := .seq #[.int q.num t1, .int (q.den : Int) t2] c }
end Mine

end
section
open PySem PySem.W PyProof.Rows PySem.Calls
set_option Elab.async false
set_option maxRecDepth 100000 
set_option maxHeartbeats 8000000 
namespace Mine
section
variable {prog : Program} {w : World} {A : Around} {E : Value → Shared → Prop} {s : Shared} {h₀ : Heap} {L : Addr} {m : Str → Option Value} {news : List (Addr × Obj)}
/-- an item of a tuple that the ledger bears -/
theorem it_tup {value slice : PySem.Expr} {l : Addr} {arr : Array Value} {c : Nat} {k : Int} {u : Tok} {j : Nat} {x : Value} {Q : Value → Shared → Prop} (N : News h₀ L s.heap news) (hm : (l, tupO arr c) ∈ news)
    (hlo : -(2 ^ 63) ≤ k) (hhi : k < 2 ^ 63) (hj : seqIndex? k arr.size = some j) (hx : arr[j]? = some x) (h : Q x s)
    (hs : subscripted slice false (.ref l) (.int k u) = operate [.ref l, .int k u] (getItem (.ref l) (.int k u)) := by with_unfolding_all rfl) :
    wpAny (model prog w) A (subscriptTail value slice (.ref l) (.int k u)) Q E s :=
  item_tupleT (l := arr.toList) ⟨_, (N _ hm).1, rfl, c, rfl⟩ hlo hhi (by simpa using hj) (by simpa using hx) h hs
end
/-- the ledger bears the fraction q, of at most m bits -/
def FrIn (news : List (Addr × Obj)) (v : Value) (m : Nat) (q : Rat) : Prop := Som4 fun l t1 t2 c => Amd3 (v = .ref l) ((l, frO q t1 t2 c) ∈ news) (Sm m q)
theorem FrIn.sm {news : List (Addr × Obj)} {v : Value} {m : Nat} {q : Rat} (h : FrIn news v m q) : Sm m q := let ⟨_, _, _, _, _, _, z⟩ := h; z
theorem le_lim {m n : Nat} (h : m + n ≤ 67108864) : m + n ≤ 134217728 := by omega
theorem le_lim' {m n : Nat} (h : m + n ≤ 67108864) : n + m ≤ 134217728 := by omega
end Mine

end
section
set_option linter.unusedVariables false
open PySem PySem.W PyProof.Rows PySem.Calls
set_option Elab.async false
set_option maxRecDepth 100000
set_option maxHeartbeats 1000000
namespace Mine
/-- what was made lies above what stood -/
def Abv (news tl : List (Addr × Obj)) : Prop := ∀ p ∈ tl, ∀ q ∈ news, q.1 < p.1
section
variable {news news' tl tl2 : List (Addr × Obj)}
theorem Abv.nil : Abv news [] := fun _ h => nomatch h
theorem Abv.cons {D : Addr} {o : Obj} (h : AllLt D (tl ++ news)) (k : Abv news tl) : Abv news ((D, o) :: tl) := fun p hp q hq => by
  rcases List.mem_cons.mp hp with rfl | hp
  · exact ktn_ltOf h q (List.mem_append.mpr (.inr hq))
  · exact k p hp q hq
theorem Abv.app (h : Abv news tl) (k : Abv (tl ++ news) tl2) : Abv news (tl2 ++ tl) := fun p hp q hq => by
  rcases List.mem_append.mp hp with hp | hp
  · exact k p hp q (List.mem_append.mpr (.inr hq))
  · exact h p hp q hq
theorem Abv.sub (h : Abv news tl) (hs : ∀ p ∈ news', p ∈ news) : Abv news' tl := fun p hp q hq => h p hp q (hs q hq)
theorem mem_app {p : Addr × Obj} (h : p ∈ news) : p ∈ tl ++ news := List.mem_append.mpr (.inr h)
end
noncomputable def All2 {α β : Type} (R : α → β → Prop) : List α → List β → Prop
  | [], [] => True
  | a :: as, b :: bs => R a b ∧ All2 R as bs
  | _, _ => False
section
variable {α β : Type} {R R' : α → β → Prop}
theorem All2.len : ∀ {as : List α} {bs : List β}, All2 R as bs → as.length = bs.length
  | [], [], _ => rfl
  | _ :: _, _ :: _, h => congrArg (· + 1) h.2.len
theorem All2.mono (hs : ∀ a b, R a b → R' a b) : ∀ {as : List α} {bs : List β}, All2 R as bs → All2 R' as bs
  | [], [], _ => True.intro
  | _ :: _, _ :: _, h => ⟨hs _ _ h.1, h.2.mono hs⟩
theorem All2.get : ∀ {as : List α} {bs : List β}, All2 R as bs → ∀ (i : Nat) (a : α), as[i]? = some a → ∃ b, bs[i]? = some b ∧ R a b
  | [], [], _, _, _, e => by simp at e
  | _ :: _, _ :: _, h, 0, _, e => ⟨_, rfl, (Option.some.inj e) ▸ h.1⟩
  | _ :: _, _ :: _, h, i + 1, a, e => by
    obtain ⟨b, e', r⟩ := h.2.get i a (by simpa using e)
    exact ⟨b, by simpa using e', r⟩
theorem All2.get' : ∀ {as : List α} {bs : List β}, All2 R as bs → ∀ (i : Nat) (b : β), bs[i]? = some b → ∃ a, as[i]? = some a ∧ R a b
  | [], [], _, _, _, e => by simp at e
  | _ :: _, _ :: _, h, 0, _, e => ⟨_, rfl, (Option.some.inj e) ▸ h.1⟩
  | _ :: _, _ :: _, h, i + 1, b, e => by
    obtain ⟨a, e', r⟩ := h.2.get' i b (by simpa using e)
    exact ⟨a, by simpa using e', r⟩
theorem All2.two : ∀ {as : List α} {b0 b1 : β}, All2 R as [b0, b1] → ∃ a0 a1, as = [a0, a1] ∧ R a0 b0 ∧ R a1 b1
  | [a0, a1], _, _, h => ⟨a0, a1, rfl, h.1, h.2.1⟩
theorem All2.app {as' : List α} {bs' : List β} (k : All2 R as' bs') : ∀ {as : List α} {bs : List β}, All2 R as bs → All2 R (as ++ as') (bs ++ bs')
  | [], [], _ => k
  | _ :: _, _ :: _, h => ⟨h.1, All2.app k h.2⟩
end
abbrev Pt := Rat × Rat
/-- the ledger bears the point p, of at most m bits -/
def PtIn (news : List (Addr × Obj)) (m : Nat) (v : Value) (p : Pt) : Prop := Som4 fun l v1 v2 c => Amd4 (v = .ref l) ((l, tupO #[v1, v2] c) ∈ news) (FrIn news v1 m p.1) (FrIn news v2 m p.2)
/-- the ledger bears the curve ps: a tuple of points -/
def CvIn (news : List (Addr × Obj)) (m : Nat) (v : Value) (ps : List Pt) : Prop := Som3 fun l vs c => Amd3 (v = .ref l) ((l, tupO vs.toArray c) ∈ news) (All2 (PtIn news m) vs ps)
section
variable {news news' : List (Addr × Obj)} {v : Value} {m n : Nat}
theorem FrIn.mono {q : Rat} (h : FrIn news v m q) (hs : ∀ p ∈ news, p ∈ news') : FrIn news' v m q :=
  let ⟨l, t1, t2, c, e, hm, z⟩ := h; ⟨l, t1, t2, c, e, hs _ hm, z⟩
theorem FrIn.le {q : Rat} (h : FrIn news v m q) (hs : m ≤ n) : FrIn news v n q :=
  let ⟨l, t1, t2, c, e, hm, z⟩ := h; ⟨l, t1, t2, c, e, hm, z.le hs⟩
theorem PtIn.mono {p : Pt} (h : PtIn news m v p) (hs : ∀ p ∈ news, p ∈ news') : PtIn news' m v p :=
  let ⟨l, v1, v2, c, e, hm, z1, z2⟩ := h; ⟨l, v1, v2, c, e, hs _ hm, z1.mono hs, z2.mono hs⟩
theorem PtIn.le {p : Pt} (h : PtIn news m v p) (hs : m ≤ n) : PtIn news n v p :=
  let ⟨l, v1, v2, c, e, hm, z1, z2⟩ := h; ⟨l, v1, v2, c, e, hm, z1.le hs, z2.le hs⟩
theorem CvIn.mono {ps : List Pt} (h : CvIn news m v ps) (hs : ∀ p ∈ news, p ∈ news') : CvIn news' m v ps :=
  let ⟨l, vs, c, e, hm, z⟩ := h; ⟨l, vs, c, e, hs _ hm, z.mono fun _ _ k => k.mono hs⟩
theorem CvIn.le {ps : List Pt} (h : CvIn news m v ps) (hs : m ≤ n) : CvIn news n v ps :=
  let ⟨l, vs, c, e, hm, z⟩ := h; ⟨l, vs, c, e, hm, z.mono fun _ _ k => k.le hs⟩
end
section
variable {prog : Program} {w : World} {A : Around} {E : Value → Shared → Prop} {s : Shared} {h₀ : Heap} {L : Addr} {m : Str → Option Value} {news : List (Addr × Obj)}
theorem len_op {l : Addr} {vs : List Value} {c : Nat} {Q : Value → Shared → Prop} (N : News h₀ L s.heap news) (hm : (l, tupO vs.toArray c) ∈ news) (hz : vs.length ≤ 16384)
    (h : Q (.int vs.length (s.toks + 1)) { s with toks := s.toks + 1 + 1 }) : wpAny (model prog w) A (call (.builtin "len") [.ref l]) Q E s :=
  len_tuple ⟨_, (N _ hm).1, rfl, c, rfl⟩ (by simp; omega) (by simpa using h)
theorem tup_same {l : Addr} {arr : Array Value} {c : Nat} {Q : Value → Shared → Prop} (N : News h₀ L s.heap news) (hm : (l, tupO arr c) ∈ news) (h : Q (.ref l) s) : wpAny (model prog w) A (call (.type "tuple") [.ref l]) Q E s :=
  call_tuple_tup ⟨_, (N _ hm).1, rfl, c, rfl⟩ h
theorem tup_list {l : Addr} {vs : List Value} {c : Nat} {Q : Value → Shared → Prop} (F : Fr h₀ L s.heap m) (N : News h₀ L s.heap news) (hm : (l, listOf vs.toArray c) ∈ news) (hz : vs.length ≤ 16384)
    (h : ∀ D h', Fr h₀ L h' m → News h₀ L h' ((D, tupO vs.toArray 0) :: news) → AllLt D news → Q (.ref D) { s with heap := h' }) : wpAny (model prog w) A (call (.type "tuple") [.ref l]) Q E s :=
  kde_tupleOf F N ⟨_, (N _ hm).1, rfl, c, rfl⟩ (by simpa using hz) rfl (fun D h' F' N' l1 => h D h' F' N' (allLt_of l1))
theorem app_op {R : Addr} {vs : List Value} {c : Nat} {x : Value} {Q : Value → Shared → Prop} (keep : List (Addr × Obj)) (F : Fr h₀ L s.heap m) (N : News h₀ L s.heap news) (hm : (R, listOf vs.toArray c) ∈ news) (hk : ∀ p ∈ keep, p ∈ news) (hR : ∀ p ∈ keep, p.1 ≠ R) (hz : vs.length ≤ 16384)
    (h : ∀ h', Fr h₀ L h' m → News h₀ L h' ((R, listOf (vs ++ [x]).toArray (c + 1)) :: keep) → Q .none { s with heap := h' }) : wpAny (model prog w) A (call (.builtin "list.append") [.ref R, x]) Q E s := by
  have z := N _ hm
  refine append_at z.1 (fun h' hs ho' => h h' (F.change hs z.2.1 z.2.2) ?_) (by simp [sizeLine_eq]; omega)
  intro p hp
  rcases List.mem_cons.mp hp with rfl | hp
  · exact ⟨by rw [ho']; simp, z.2⟩
  · exact ⟨(hs.2 p.1 (hR p hp)).trans (N p (hk p hp)).1, (N p (hk p hp)).2⟩
theorem cell_op {M : Model} {L a c : Addr} {cn : Str} {cs : Scope} {ccd : Value} {cl : List (Str × Addr)} {x : Str} {v : Value} {o : Obj} {v₀ : Option Value} {Q : Unit → Shared → Prop} (keep : List (Addr × Obj)) (F : Fr h₀ L s.heap m) (N : News h₀ L s.heap news) (hc : cl.lookup x = some c) (hm : (c, o) ∈ news) (hd : o.data = .cell v₀)
    (hk : ∀ p ∈ keep, p ∈ news) (hR : ∀ p ∈ keep, p.1 ≠ c)
    (h : ∀ h' o', Fr h₀ L h' m → News h₀ L h' ((c, o') :: keep) → o'.data = .cell (some v) → Q () { s with heap := h' })
    (hk' : cs.kind = .function := by rfl) (hx : (envX cn cs L a ccd cl).kindOf x = some .cell := by rfl) : wpAny M A (storeName (envX cn cs L a ccd cl) x v) Q E s := by
  have hmem := N _ hm
  refine wpAny_storeName_cell hk' hx hc ⟨o, hmem.1, hd⟩ fun h' hv hs => ?_
  obtain ⟨o', ho', hd'⟩ := hv
  refine h h' o' ⟨F.ns.sameBut hs (Ne.symm hmem.2.1), fun b ob e => (hs.2 b (fun q => ?_)).trans (F.keep b ob e), F.above⟩ ?_ hd'
  · rw [q, hmem.2.2] at e; cases e
  · intro p hp
    rcases List.mem_cons.mp hp with rfl | hp
    · exact ⟨ho', hmem.2⟩
    · exact ⟨(hs.2 p.1 (hR p hp)).trans (N p (hk p hp)).1, (N p (hk p hp)).2⟩
end

end Mine

end
section
set_option linter.unusedVariables false
open PySem PySem.W PyProof.Rows PySem.Calls
set_option Elab.async false
set_option maxRecDepth 100000
set_option maxHeartbeats 1000000
namespace Mine
theorem adjust_rev (n : Nat) : Builtin.Slice.sliceAdjust none none (-1) (n : Int) = ((n : Int) - 1, -1) := by
  unfold Builtin.Slice.sliceAdjust
  simp
theorem places_rev (n : Nat) : Builtin.Slice.slicePlaces ((n : Int) - 1) (-1) (-1) = n := by
  unfold Builtin.Slice.slicePlaces
  rw [if_neg (by decide)]
  have e : ((n : Int) - 1 - -1 - 1) / (- -1) = (n : Int) - 1 := by
    rw [show (- -1 : Int) = 1 by decide, Int.ediv_one]
    omega
  rw [e]
  split <;> omega
theorem fm_congr {α β : Type} {f g : α → Option β} : ∀ {l : List α}, (∀ x ∈ l, f x = g x) → l.filterMap f = l.filterMap g
  | [], _ => rfl
  | a :: l, h => by
    rw [List.filterMap_cons, List.filterMap_cons, h a (.head _), fm_congr fun x hx => h x (.tail _ hx)]
theorem pick_rev (xs : Array Value) : ((List.range xs.size).filterMap fun (k : Nat) => xs[((xs.size : Int) - 1 + (k : Int) * (-1)).toNat]?).toArray = xs.toList.reverse.toArray := by
  have e : ((List.range xs.size).filterMap fun (k : Nat) => xs[((xs.size : Int) - 1 + (k : Int) * (-1)).toNat]?) = ((List.range xs.size).map fun k => xs.size - 1 - k).filterMap (xs[·]?) := by
    rw [List.filterMap_map]
    refine fm_congr fun k hk => ?_
    have h := List.mem_range.mp hk
    have h2 : ((xs.size : Int) - 1 + (k : Int) * (-1)).toNat = xs.size - 1 - k := by omega
    simp only [h2, Function.comp]
  rw [e, krv_range, List.filterMap_reverse, krv_all]
section
variable {prog : Program} {w : World} {A : Around} {E : Value → Shared → Prop} {s : Shared} {h₀ : Heap} {L : Addr} {m : Str → Option Value} {news : List (Addr × Obj)}
theorem applied_rev {sl : Addr} {n : Nat} {u : Tok} {Q : Int × Int × Nat → Shared → Prop} (hs : s.heap.IsSliceOf sl .none .none (.int (-1) u)) (h : Q ((n : Int) - 1, -1, n) s) :
    wpAny (model prog w) A (Builtin.Slice.sliceApplied (.ref sl) (pure (n : Int))) Q E s := by
  obtain ⟨os, hos, hcs, hds⟩ := id hs
  unfold Builtin.Slice.sliceApplied Builtin.Slice.sliceFields
  refine wpAny_bind (wpAny_bind (wpAny_field hos hds (x := .none) rfl (wpAny_bind (wpAny_field hos hds (x := .none) rfl (wpAny_bind (wpAny_field hos hds (x := .int (-1) u) rfl (wpAny_pure ?_)))))))
  refine wpAny_bind (slicePart_int ?_)
  show wpAny _ _ (if ((-1 : Int) == 0) = true then _ else _) _ _ s
  rw [if_neg (by decide)]
  refine wpAny_bind (slicePart_none (wpAny_bind (slicePart_none (wpAny_bind (wpAny_pure ?_)))))
  show wpAny _ _ (match Builtin.Slice.sliceAdjust none none (-1) (n : Int) with | (lo, hi) => pure (lo, (-1 : Int), Builtin.Slice.slicePlaces lo hi (-1))) _ _ s
  rw [adjust_rev n]
  show wpAny _ _ (pure ((n : Int) - 1, (-1 : Int), Builtin.Slice.slicePlaces ((n : Int) - 1) (-1) (-1))) _ _ s
  rw [places_rev n]
  exact wpAny_pure h
theorem getItem_rev {t sl : Addr} {items : Array Value} {u : Tok} {Q : Value → Shared → Prop} (ht : IsTup s.heap t items) (hs : s.heap.IsSliceOf sl .none .none (.int (-1) u)) (hsz : items.size ≤ sizeLine)
    (h : Q (.ref s.heap.objs.size) { s with heap := s.heap.push { cls := .type "tuple", data := .seq items.toList.reverse.toArray } }) : wpAny (model prog w) A (getItem (.ref t) (.ref sl)) Q E s := by
  have hok : sizeOk (.seq items.toList.reverse.toArray) := by
    show items.toList.reverse.toArray.size ≤ sizeLine
    rw [List.size_toArray, List.length_reverse, Array.length_toList]
    exact hsz
  obtain ⟨os, hos, hcs, hds⟩ := id hs
  have hTs : s.TypeIs (.ref sl) "slice" := ⟨os, hos, hcs⟩
  unfold getItem
  try with_reducible refine wpAny_holding ?_
  first | refine wpAny_bind (wpAny_pure ?_) | skip
  refine wpAny_bind (wpAny_sequenceKey ht.typeIs (by decide) ?_)
  refine wpAny_bind (wpAny_callSpecial?_slot (name := Str.ofString "__getitem__") ht.typeIs slot_tuple_getitem
    (wpAny_call_entry slot_tuple_getitem ht.typeIs entry_tuple_getitem ?_ (args_tuple_getitem _ _)))
  show wpAny _ _ (Builtin.Tuple.tupleItemsOf (.ref t) >>= _) _ _ s
  refine wpAny_bind (tupleItemsOf_ ht ?_)
  refine wpAny_bind (wpAny_typeOf hTs ?_)
  rw [if_pos (by decide)]
  refine wpAny_bind (applied_rev hs ?_)
  have hno : ¬ ((((items.size : Nat) : Int) - 1 == 0 && (-1 : Int) == 1 && items.size == items.size) = true) := by simp
  show wpAny _ _ (if (((items.size : Nat) : Int) - 1 == 0 && (-1 : Int) == 1 && items.size == items.size) = true then _ else _) _ _ s
  rw [if_neg hno, pick_rev items]
  first
    | exact wpAny_bind (m := Builtin.Tuple.tupleExact _) (wpAny_newObj_type (wpAny_pure ⟨_, rfl, wpAny_pure h⟩) hok)
    | exact wpAny_bind (m := Builtin.Tuple.tupleExact _) (wpAny_newObj_type (wpAny_bind (wpAny_pure (wpAny_pure ⟨_, rfl, wpAny_pure h⟩))) hok)
    | exact wpAny_bind (wpAny_bind (m := Builtin.Tuple.tupleExact _) (wpAny_newObj_type (wpAny_pure (wpAny_pure ⟨_, rfl, wpAny_pure h⟩)) hok))
    | exact wpAny_bind (wpAny_bind (m := Builtin.Tuple.tupleExact _) (wpAny_newObj_type (wpAny_pure ⟨_, rfl, wpAny_pure h⟩) hok))
theorem slice_rev {value slice : PySem.Expr} {t : Addr} {items : Array Value} {u : Tok} {ops : List Value} {Q : Value → Shared → Prop} (F : Fr h₀ L s.heap m) (N : News h₀ L s.heap news) (ht : IsTup s.heap t items) (hsz : items.size ≤ sizeLine)
    (h : ∀ D h', Fr h₀ L h' m → News h₀ L h' ((D, tupO items.toList.reverse.toArray 0) :: news) → AllLt D news → Q (.ref D) { s with heap := h' })
    (hs : subscripted slice false (.ref t) (.ref s.heap.objs.size) = operate ops (getItem (.ref t) (.ref s.heap.objs.size))) (hg : ∀ r, letTemporaryGo value (.ref t) r = pure ()) :
    wpAny (model prog w) A (subscriptTail value slice (.ref t) (.ref s.heap.objs.size)) Q E { s with heap := s.heap.push { cls := .type "slice", data := .fields #[.none, .none, .int (-1) u] } } := by
  have ht' : IsTup (s.heap.push { cls := .type "slice", data := .fields #[.none, .none, .int (-1) u] }) t items := ht.keeps fun _ _ e => Heap.get?_push_of_some _ e
  refine subscriptTail_ops (s := { s with heap := s.heap.push { cls := .type "slice", data := .fields #[.none, .none, .int (-1) u] } }) ht'.typeIs slot_tuple_getitem.lookup
    (getItem_rev ht' (Heap.IsSliceOf.new ..) hsz ?_) hs hg
  have N1 := News.push (F.push { cls := .type "slice", data := .fields #[.none, .none, .int (-1) u] }) (N.grown fun _ _ e => Heap.get?_push_of_some _ e) { cls := .type "tuple", data := .seq items.toList.reverse.toArray }
  exact h _ _ ((F.push _).push _) N1 (allLt_of fun p hp => by rw [Heap.size_push]; exact Nat.lt_succ_of_lt (Heap.lt_size (N p hp).1))
end

end Mine

end
section
set_option linter.unusedVariables false
open PySem PySem.W PyProof.Rows PySem.Calls
set_option Elab.async false
set_option maxRecDepth 100000
set_option maxHeartbeats 1000000
namespace Mine
set_option genSizeOf false in
set_option genInjectivity false in
structure Wx where
  w : World
  mean : ExcName → Option Value
  mg : Str → Option Value
  mb : Str → Option Value
abbrev Led := List (Addr × Obj)
abbrev Bnd := List (Str × Value)
noncomputable def look (l : Bnd) (y : Str) : Option Value := l.lookup y
noncomputable abbrev PR : Program := PySem.Challenge.rw_nu0005_01.row.prog

set_option genSizeOf false in
set_option genInjectivity false in
/-- a frame at work: all that the steps in it ask -/
structure Cx (W : Wx) (room : Nat) (sc : Scope) (cl : List (Str × Addr)) where
  dp : Nat
  un : Nat
  gd : Option (List Code)
  cn : Str
  fa : Addr
  ccd : Value
  outer : List Env
  A₀ : Around
  base : Heap
  h₀ : Heap
  L : Addr
  B : Below A₀ base outer h₀
  X : (hd.heap_39 W.w.params).In h₀
  T : Top hd.view_39 (looseW hd.view_39 [Str.ofString "fraction"]) W.mean W.mg W.mb h₀
  hk : sc.kind = .function
  hdp : dp + room < recursionLimit
  hun : un + 8 * room < cLine
namespace Cx
variable {W : Wx} {room : Nat} {sc : Scope} {cl : List (Str × Addr)}
def env (C : Cx W room sc cl) : Env := envX C.cn sc C.L C.fa C.ccd cl
def A (C : Cx W room sc cl) : Around := ktrTop C.dp C.un C.gd C.cn sc C.L C.fa C.ccd cl C.outer
end Cx
variable {W : Wx} {room : Nat} {sc : Scope} {cl : List (Str × Addr)}
/-- an expression gives a value, and the ledger behind it -/
def Ev (C : Cx W room sc cl) (en : Env) (l : Bnd) (news : Led) (e : PySem.Expr) (post : Value → Led → Prop) : Prop :=
  ∀ (E : Value → Shared → Prop) (Q : Value → Shared → Prop) (s : Shared), Fr C.h₀ C.L s.heap (look l) → News C.h₀ C.L s.heap news →
    (∀ v news' h' tk', Fr C.h₀ C.L h' (look l) → News C.h₀ C.L h' news' → post v news' → Q v { s with heap := h', toks := tk' }) →
    wpAny (model PR W.w) C.A (eval e en) Q E s
/-- a pure one: this very value -/
def EvV (C : Cx W room sc cl) (en : Env) (l : Bnd) (news : Led) (e : PySem.Expr) (v : Value) : Prop := Ev C en l news e (fun r n => r = v ∧ n = news)
/-- a pure one: this int -/
def EvI (C : Cx W room sc cl) (en : Env) (l : Bnd) (news : Led) (e : PySem.Expr) (x : Int) : Prop := Ev C en l news e (fun r n => (∃ t, r = .int x t) ∧ n = news)
def Evs (C : Cx W room sc cl) (en : Env) (l : Bnd) (news : Led) (es : List PySem.Expr) (post : List Value → Led → Prop) : Prop :=
  ∀ (pos : Pos) (E : Value → Shared → Prop) (Q : List Value → Shared → Prop) (s : Shared), Fr C.h₀ C.L s.heap (look l) → News C.h₀ C.L s.heap news →
    (∀ vs news' h' tk', Fr C.h₀ C.L h' (look l) → News C.h₀ C.L h' news' → post vs news' → Q vs { s with heap := h', toks := tk' }) →
    wpAny (model PR W.w) C.A (spliced (backTo pos (starEach es en))) Q E s
def Ex (C : Cx W room sc cl) (en : Env) (l : Bnd) (news : Led) (ss : List Stmt) (R : Value → Led → Prop) (N : Bnd → Led → Prop) : Prop :=
  ∀ (E : Value → Shared → Prop) (Q : Flow → Shared → Prop) (s : Shared), PassesOwn (model PR W.w) C.A en E → Fr C.h₀ C.L s.heap (look l) → News C.h₀ C.L s.heap news →
    (∀ v l' news' h' tk', Fr C.h₀ C.L h' (look l') → News C.h₀ C.L h' news' → R v news' → Q (.ret v) { s with heap := h', toks := tk' }) →
    (∀ l' news' h' tk', Fr C.h₀ C.L h' (look l') → News C.h₀ C.L h' news' → N l' news' → Q .next { s with heap := h', toks := tk' }) →
    wpAny (model PR W.w) C.A (execs ss en) Q E s
section
variable {C : Cx W room sc cl} {en : Env} {l : Bnd} {news : Led}
theorem Ev.mono {e : PySem.Expr} {P P' : Value → Led → Prop} (h : Ev C en l news e P) (k : ∀ v n, P v n → P' v n) : Ev C en l news e P' :=
  fun E Q s F N q => h E Q s F N fun v n h' tk F' N' p => q v n h' tk F' N' (k v n p)
theorem Evs.mono {e : List PySem.Expr} {P P' : List Value → Led → Prop} (h : Evs C en l news e P) (k : ∀ v n, P v n → P' v n) : Evs C en l news e P' :=
  fun p E Q s F N q => h p E Q s F N fun v n h' tk F' N' p => q v n h' tk F' N' (k v n p)
theorem ev_local {x : Str} {p : Pos} {v : Value} (hv : look l x = some v) (hx : (envX C.cn sc C.L C.fa C.ccd cl).kindOf x = some .local) (hd : (x == ("__debug__" : Str)) = false) : EvV C C.env l news (.Name x p) v :=
  fun E Q s F N q => nameX_L F hv (q v news s.heap s.toks F N ⟨rfl, rfl⟩) C.hk hx hd
theorem ev_fn {x : Str} {p : Pos} {v : Value} (e : nsIn (hd.heap_39 W.w.params) mainGlobals x = some (some v)) (hx : (envX C.cn sc C.L C.fa C.ccd cl).kindOf x = some .globalImplicit) (hd : (x == ("__debug__" : Str)) = false) : EvV C C.env l news (.Name x p) v :=
  fun E Q s F N q => nameX_K F C.X (topRead_of C.T) e (q v news s.heap s.toks F N ⟨rfl, rfl⟩) C.hk hx hd
theorem ev_bi {x : Str} {p : Pos} {v : Value} (e : nsIn (hd.heap_39 W.w.params) mainGlobals x = some none) (hv : bootBuiltins x = some v) (hn : x ≠ "__name__") (hx : (envX C.cn sc C.L C.fa C.ccd cl).kindOf x = some .globalImplicit) (hd : (x == ("__debug__" : Str)) = false) : EvV C C.env l news (.Name x p) v :=
  fun E Q s F N q => nameX_B F C.X (topRead_of C.T) e hv hn (q v news s.heap s.toks F N ⟨rfl, rfl⟩) C.hk hx hd
theorem evI_of {e : PySem.Expr} {x : Int} {t : Tok} (h : EvV C en l news e (.int x t)) : EvI C en l news e x := Ev.mono h fun _ _ p => ⟨⟨t, p.1⟩, p.2⟩
theorem evI_const {i : Int} {k : Nat} {p : Pos} : EvI C en l news (.Constant (.int i) k p) i :=
  fun E Q s F N q => wpAny_Constant_int (q _ news s.heap _ F N ⟨⟨_, rfl⟩, rfl⟩)
theorem evI_neg {e : PySem.Expr} {x : Int} {p : Pos} (h : EvI C en l news e x) : EvI C en l news (.UnaryOp .USub e p) (-x) :=
  fun E Q s F N q => UnaryOp_ (h E _ s F N fun v n h' tk F' N' ⟨⟨t, e1⟩, e2⟩ => by subst e1; subst e2; exact neg_int (q _ _ h' _ F' N' ⟨⟨_, rfl⟩, rfl⟩))
section
variable {a b : PySem.Expr} {x y : Int} {p : Pos}
theorem evI_bin {op : Operator} {z : Int} (ha : EvI C en l news a x) (hb : EvI C en l news b y)
    (hop : ∀ (t u : Tok) (E : Value → Shared → Prop) (Q : Value → Shared → Prop) (s : Shared), Fr C.h₀ C.L s.heap (look l) → (∀ t', Q (.int z t') { s with toks := s.toks + 1 }) → wpAny (model PR W.w) C.A (binaryOp op (.int x t) (.int y u)) Q E s) : EvI C en l news (.BinOp a op b p) z :=
  fun E Q s F N q => wpAny_BinOp (ha E _ s F N fun v n h' tk F' N' ⟨⟨t, e1⟩, e2⟩ => by
    subst e1; subst e2
    exact hb E _ _ F' N' fun v n h2 tk2 F2 N2 ⟨⟨t2, e3⟩, e4⟩ => by
      subst e3; subst e4
      exact hop t t2 E Q _ F2 fun t' => q _ _ h2 _ F2 N2 ⟨⟨t', rfl⟩, rfl⟩)
theorem evI_add (ha : EvI C en l news a x) (hb : EvI C en l news b y) : EvI C en l news (.BinOp a .Add b p) (x + y) := evI_bin ha hb fun _ _ _ _ _ _ q => P.add_int (q _)
theorem evI_sub (ha : EvI C en l news a x) (hb : EvI C en l news b y) : EvI C en l news (.BinOp a .Sub b p) (x - y) := evI_bin ha hb fun _ _ _ _ _ _ q => P.sub_int (q _)
theorem evI_mul (ha : EvI C en l news a x) (hb : EvI C en l news b y) (hm : IntMulOk x y) : EvI C en l news (.BinOp a .Mult b p) (x * y) := evI_bin ha hb fun _ _ _ _ _ _ q => P.mul_int (q _) hm
theorem evI_mod (ha : EvI C en l news a x) (hb : EvI C en l news b y) (hm : y ≠ 0) : EvI C en l news (.BinOp a .Mod b p) (x.fmod y) := evI_bin ha hb fun _ _ _ _ _ _ q => mod_int' hm (q _)
theorem evI_pow (ha : EvI C en l news a x) (hb : EvI C en l news b y) (h0 : 0 ≤ y) (hm : (Builtin.Int.intBits x : Int) * y ≤ 2 ^ 27) : EvI C en l news (.BinOp a .Pow b p) (x ^ y.toNat) := evI_bin ha hb fun _ _ _ _ _ _ q => pow_int h0 hm (q _)
end
theorem evs_nil : Evs C en l news [] (fun vs n => vs = [] ∧ n = news) := fun pos E Q s F N q => spliced_none (q [] news s.heap s.toks F N ⟨rfl, rfl⟩)
theorem evs_cons {e : PySem.Expr} {es : List PySem.Expr} {P : Value → Led → Prop} {P' : List Value → Led → Prop} (he : Ev C en l news e P) (hs : ∀ v n, P v n → Evs C en l n es (fun vs n' => P' (v :: vs) n')) (hst : starEach (e :: es) en = (false, eval e en) :: starEach es en := by rfl) : Evs C en l news (e :: es) P' :=
  fun pos E Q s F N q => spliced_more (he E _ s F N fun v n h' tk F' N' p => hs v n p pos E _ _ F' N' fun vs n' h2 tk2 F2 N2 p2 => q _ _ h2 tk2 F2 N2 p2) hst
def EvsV (C : Cx W room sc cl) (en : Env) (l : Bnd) (news : Led) (es : List PySem.Expr) (vs : List Value) : Prop := Evs C en l news es (fun r n => r = vs ∧ n = news)
theorem evsV_nil : EvsV C en l news [] [] := evs_nil
theorem evsV_cons {e : PySem.Expr} {es : List PySem.Expr} {v : Value} {vs : List Value} (he : EvV C en l news e v) (hs : EvsV C en l news es vs) (hst : starEach (e :: es) en = (false, eval e en) :: starEach es en := by rfl) : EvsV C en l news (e :: es) (v :: vs) :=
  evs_cons he (fun v' n ⟨e1, e2⟩ => by subst e1; subst e2; exact Evs.mono hs fun vs' n' ⟨e3, e4⟩ => by subst e3; exact ⟨rfl, e4⟩) hst
/-- an item of a tuple, of a list -/
theorem ev_item {a b : PySem.Expr} {p : Pos} {r : Addr} {vs : List Value} {c : Nat} {k : Int} {j : Nat} {x : Value} (ha : EvV C en l news a (.ref r)) (hb : EvI C en l news b k) (hm : (r, tupO vs.toArray c) ∈ news)
    (hlo : -(2 ^ 63) ≤ k) (hhi : k < 2 ^ 63) (hj : seqIndex? k vs.length = some j) (hx : vs[j]? = some x)
    (hs : ∀ u, subscripted b false (.ref r) (.int k u) = operate [.ref r, .int k u] (getItem (.ref r) (.int k u)) := by intro u; with_unfolding_all rfl) : EvV C en l news (.Subscript a b p) x :=
  fun E Q s F N q => Subscript_ (ha E _ s F N fun v n h' tk F' N' ⟨e1, e2⟩ => by
    subst e1; subst e2
    exact hb E _ _ F' N' fun v n h2 tk2 F2 N2 ⟨⟨t2, e3⟩, e4⟩ => by
      subst e3; subst e4
      exact it_tup N2 hm hlo hhi (by simpa using hj) (by simpa using hx) (q _ _ h2 _ F2 N2 ⟨rfl, rfl⟩) (hs _))
end
theorem Con.mono {w : World} {mean : ExcName → Option Value} {mg mb : Str → Option Value} {cost : Nat} {f : Addr} {news : Led} {vs : List Value} {P P' : Value → Led → Prop} (h : Con w mean mg mb cost f news vs P) (k : ∀ r n, P r n → P' r n) : Con w mean mg mb cost f news vs P' :=
  fun dp un gd cn cs a ccd cl outer A₀ base h₀ L m s Q E B F X N T hk hd hu q => h dp un gd cn cs a ccd cl outer A₀ base h₀ L m s Q E B F X N T hk hd hu fun r n h' tk F' N' p => q r n h' tk F' N' (k r n p)
section
variable {C : Cx W room sc cl} {en : Env} {l : Bnd} {news : Led}
/-- a call of a def -/
theorem ev_call {fe e : PySem.Expr} {es : List PySem.Expr} {p : Pos} {a : Addr} {cost : Nat} {P : List Value → Led → Prop} {post : Value → Led → Prop} (hf : EvV C en l news fe (.ref a)) (hk : keepIn (hd.heap_39 W.w.params) (.ref a) = true) (ha : Evs C en l news (e :: es) P)
    (hc : ∀ vs n, P vs n → Con W.w W.mean W.mg W.mb cost a n vs post) (hr : cost ≤ room)
    (he : starEach (e :: es) en = (false, eval e en) :: starEach es en := by rfl) (hplain : ∀ pos, (backTo pos (starEach es en)).any (·.1) = false := by intro _; rfl)
    (hst : eval (.Call fe (e :: es) [] p) en = (do callWith p (← eval fe en) [] (backTo p (starEach (e :: es) en)) (backToKw p (keywordEach [] en))) := by rfl) : Ev C en l news (.Call fe (e :: es) [] p) post :=
  fun E Q s F N q => Call_ (hf E _ s F N fun v n h' tk F' N' ⟨e1, e2⟩ => by
    subst e1; subst e2
    refine callWith_K C.X hk (ha p E _ _ F' N' fun vs n h2 tk2 F2 N2 p2 => ⟨C.X.keeps F2.keep, ?_⟩) he (hplain p)
    rw [List.nil_append]
    exact con_use (hc vs n p2) C.B F2 C.X N2 C.T C.hk (Nat.lt_of_le_of_lt (Nat.add_le_add_left hr _) C.hdp) (Nat.lt_of_le_of_lt (Nat.add_le_add_left (Nat.mul_le_mul_left 8 hr) _) C.hun) fun r n h3 tk3 F3 N3 p3 => q r n h3 tk3 F3 N3 p3) hst
theorem ev_callV {fe e : PySem.Expr} {es : List PySem.Expr} {p : Pos} {a : Addr} {cost : Nat} {vs : List Value} {post : Value → Led → Prop} (hf : EvV C en l news fe (.ref a)) (hk : keepIn (hd.heap_39 W.w.params) (.ref a) = true) (ha : EvsV C en l news (e :: es) vs)
    (hc : Con W.w W.mean W.mg W.mb cost a news vs post) (hr : cost ≤ room)
    (he : starEach (e :: es) en = (false, eval e en) :: starEach es en := by rfl) (hplain : ∀ pos, (backTo pos (starEach es en)).any (·.1) = false := by intro _; rfl)
    (hst : eval (.Call fe (e :: es) [] p) en = (do callWith p (← eval fe en) [] (backTo p (starEach (e :: es) en)) (backToKw p (keywordEach [] en))) := by rfl) : Ev C en l news (.Call fe (e :: es) [] p) post :=
  ev_call hf hk ha (fun vs' n ⟨e1, e2⟩ => by subst e1; subst e2; exact hc) hr he hplain hst
/-- a call of a built-in function, of a built-in class, upon one value -/
theorem ev_bi1 {fe e : PySem.Expr} {p : Pos} {id : String} {P : Value → Led → Prop} {post : Value → Led → Prop} (hf : EvV C en l news fe (.builtin id)) (ha : Ev C en l news e P)
    (hc : ∀ v n (E : Value → Shared → Prop) (Q : Value → Shared → Prop) (s : Shared), P v n → Fr C.h₀ C.L s.heap (look l) → News C.h₀ C.L s.heap n → (∀ r n' h' tk', Fr C.h₀ C.L h' (look l) → News C.h₀ C.L h' n' → post r n' → Q r { s with heap := h', toks := tk' }) → wpAny (model PR W.w) C.A (call (.builtin id) [v]) Q E s)
    (he : starEach [e] en = (false, eval e en) :: starEach [] en := by rfl) (hplain : ∀ pos, (backTo pos (starEach [] en)).any (·.1) = false := by intro _; rfl)
    (hst : eval (.Call fe [e] [] p) en = (do callWith p (← eval fe en) [] (backTo p (starEach [e] en)) (backToKw p (keywordEach [] en))) := by rfl) : Ev C en l news (.Call fe [e] [] p) post :=
  fun E Q s F N q => Call_ (hf E _ s F N fun v n h' tk F' N' ⟨e1, e2⟩ => by
    subst e1; subst e2
    refine PyProof.Rows.callWith_builtin1 (spliced_more (ha E _ _ F' N' fun v n h2 tk2 F2 N2 p2 => spliced_none ?_) he) he (hplain p)
    exact hc v n E Q _ p2 F2 N2 fun r n' h3 tk3 F3 N3 p3 => q r n' h3 tk3 F3 N3 p3) hst
theorem ev_ty1 {fe e : PySem.Expr} {p : Pos} {id : String} {P : Value → Led → Prop} {post : Value → Led → Prop} (hf : EvV C en l news fe (.type id)) (ha : Ev C en l news e P)
    (hc : ∀ v n (E : Value → Shared → Prop) (Q : Value → Shared → Prop) (s : Shared), P v n → Fr C.h₀ C.L s.heap (look l) → News C.h₀ C.L s.heap n → (∀ r n' h' tk', Fr C.h₀ C.L h' (look l) → News C.h₀ C.L h' n' → post r n' → Q r { s with heap := h', toks := tk' }) → wpAny (model PR W.w) C.A (call (.type id) [v]) Q E s)
    (he : starEach [e] en = (false, eval e en) :: starEach [] en := by rfl) (hplain : ∀ pos, (backTo pos (starEach [] en)).any (·.1) = false := by intro _; rfl)
    (hst : eval (.Call fe [e] [] p) en = (do callWith p (← eval fe en) [] (backTo p (starEach [e] en)) (backToKw p (keywordEach [] en))) := by rfl) : Ev C en l news (.Call fe [e] [] p) post :=
  fun E Q s F N q => Call_ (hf E _ s F N fun v n h' tk F' N' ⟨e1, e2⟩ => by
    subst e1; subst e2
    refine PyProof.Rows.callWith_type1 (spliced_more (ha E _ _ F' N' fun v n h2 tk2 F2 N2 p2 => spliced_none ?_) he) he (hplain p)
    exact hc v n E Q _ p2 F2 N2 fun r n' h3 tk3 F3 N3 p3 => q r n' h3 tk3 F3 N3 p3) hst
/-- displays -/
theorem ev_tuple {es : List PySem.Expr} {k : Nat} {p : Pos} {P : List Value → Led → Prop} {post : Value → Led → Prop} (h : Evs C en l news es P) (hp : ∀ vs n D, P vs n → AllLt D n → vs.length ≤ 16384 ∧ post (.ref D) ((D, tupO vs.toArray 0) :: n)) : Ev C en l news (.Tuple es k p) post :=
  fun E Q s F N q => Tuple_ (h p E _ s F N fun vs n h' tk F' N' p2 => by
    have z := hp vs n h'.objs.size p2 (allLt_of fun p hp => Heap.lt_size (N' p hp).1)
    exact newTuple_N F' N' (fun h2 F2 N2 => q _ _ h2 _ F2 N2 z.2) (by rw [sizeLine_eq]; omega))
theorem ev_list {es : List PySem.Expr} {p : Pos} {P : List Value → Led → Prop} {post : Value → Led → Prop} (h : Evs C en l news es P) (hp : ∀ vs n D, P vs n → AllLt D n → vs.length ≤ 16384 ∧ post (.ref D) ((D, listOf vs.toArray 0) :: n)) : Ev C en l news (.List es p) post :=
  fun E Q s F N q => List_ (h p E _ s F N fun vs n h' tk F' N' p2 => by
    have z := hp vs n h'.objs.size p2 (allLt_of fun p hp => Heap.lt_size (N' p hp).1)
    exact newList_N F' N' (fun h2 F2 N2 => q _ _ h2 _ F2 N2 z.2) (by rw [sizeLine_eq]; omega))
/-- statements -/
theorem ex_nil {R : Value → Led → Prop} {N : Bnd → Led → Prop} (h : N l news) : Ex C en l news [] R N := fun E Q s pe F Nw r k => wpAny_execs_nil (k l news s.heap s.toks F Nw h)
theorem ex_ret {e : PySem.Expr} {p : Pos} {ss : List Stmt} {R : Value → Led → Prop} {N : Bnd → Led → Prop} (h : Ev C en l news e R) : Ex C en l news (.Return (some e) p :: ss) R N :=
  fun E Q s pe F Nw r k => wpAny_execs_cons (wpAny_Return_some (h E _ s F Nw fun v n h' tk F' N' p => r v l n h' tk F' N' p))
theorem look_set {l : Bnd} {x : Str} {v : Value} : (fun y => if y = x then some v else look l y) = look ((x, v) :: l) := by
  funext y
  unfold look
  rw [List.lookup_cons]
  by_cases h : y = x
  · subst h; simp
  · have : (y == x) = false := by simpa using h
    simp [h, this]
theorem st_op {M : Model} {A : Around} {E : Value → Shared → Prop} {s : Shared} {x : Str} {v : Value} {Q : Unit → Shared → Prop} (F : Fr C.h₀ C.L s.heap (look l)) (N : News C.h₀ C.L s.heap news) (hx : (envX C.cn sc C.L C.fa C.ccd cl).kindOf x = some .local)
    (h : ∀ h', Fr C.h₀ C.L h' (look ((x, v) :: l)) → News C.h₀ C.L h' news → Q () { s with heap := h', toks := s.toks + 1 }) : wpAny M A (storeName C.env x v) Q E s :=
  storeX_L F N (fun h' F' N' => h h' (look_set ▸ F') N') C.hk hx
theorem ex_set {x : Str} {e : PySem.Expr} {p1 p2 : Pos} {ss : List Stmt} {P : Value → Led → Prop} {R : Value → Led → Prop} {N : Bnd → Led → Prop} (he : Ev C C.env l news e P) (hx : (envX C.cn sc C.L C.fa C.ccd cl).kindOf x = some .local)
    (hs : swapsWith e (some (.Name x p1)) p2.line C.env = pure false) (k : ∀ v n, P v n → Ex C C.env ((x, v) :: l) n ss R N) : Ex C C.env l news (.Assign [.Name x p1] e p2 :: ss) R N :=
  fun E Q s pe F Nw r kn => wpAny_execs_cons (wpAny_Assign_Name (he E _ s F Nw fun v n h' tk F' N' p => st_op F' N' hx fun h2 F2 N2 => k v n p E Q _ pe F2 N2 r kn) hs)
/-- a, b = tuple -/
theorem ex_set2s {x y : Str} {e : PySem.Expr} {p1 p2 p3 p4 : Pos} {k0 : Nat} {ss : List Stmt} {P : Value → Led → Prop} {R : Value → Led → Prop} {N : Bnd → Led → Prop} (he : Ev C C.env l news e P) (hx : (envX C.cn sc C.L C.fa C.ccd cl).kindOf x = some .local) (hy : (envX C.cn sc C.L C.fa C.ccd cl).kindOf y = some .local)
    (hs1 : swapsWithSole [.Tuple [.Name x p1, .Name y p2] k0 p3] e p4.line C.env = pure false) (hs2 : swappedStores [.Tuple [.Name x p1, .Name y p2] k0 p3] e C.env = pure (some [x, y]))
    (k : ∀ v n, P v n → Som4 fun r c v1 v2 => Amd3 (v = .ref r) ((r, tupO #[v1, v2] c) ∈ n) (Ex C C.env ((x, v1) :: (y, v2) :: l) n ss R N)) : Ex C C.env l news (.Assign [.Tuple [.Name x p1, .Name y p2] k0 p3] e p4 :: ss) R N :=
  fun E Q s pe F Nw r kn => wpAny_execs_cons (Assign_Tuple_swapped (names := [x, y]) (he E _ s F Nw fun v n h' tk F' N' p => by
    obtain ⟨rr, c, v1, v2, e1, hm, kk⟩ := k v n p
    subst e1
    refine unpackItemsN_ F' N' (items := #[v1, v2]) ⟨_, (N' _ hm).1, rfl, c, rfl⟩ rfl rfl fun h2 F2 N2 => ?_
    refine assignInOrder_cons (bindName_ (st_op F2 N2 hy fun h3 F3 N3 => ?_))
    refine assignInOrder_cons (bindName_ (st_op F3 N3 hx fun h4 F4 N4 => ?_))
    exact assignInOrder_nil (kk E Q _ pe F4 N4 r kn)) hs1 hs2)
/-- a call of a def upon two ints -/
theorem ev_callII {fe e1 e2 : PySem.Expr} {p : Pos} {a : Addr} {cost : Nat} {x y : Int} {post : Value → Led → Prop} (hk : keepIn (hd.heap_39 W.w.params) (.ref a) = true) (hfe : EvV C en l news fe (.ref a)) (h1 : EvI C en l news e1 x) (h2 : EvI C en l news e2 y)
    (hc : ∀ t u, Con W.w W.mean W.mg W.mb cost a news [.int x t, .int y u] post) (hr : cost ≤ room)
    (he1 : starEach [e1, e2] en = (false, eval e1 en) :: starEach [e2] en := by rfl) (he2 : starEach [e2] en = (false, eval e2 en) :: starEach [] en := by rfl) (hplain : ∀ pos, (backTo pos (starEach [e2] en)).any (·.1) = false := by intro _; rfl)
    (hst : eval (.Call fe [e1, e2] [] p) en = (do callWith p (← eval fe en) [] (backTo p (starEach [e1, e2] en)) (backToKw p (keywordEach [] en))) := by rfl) : Ev C en l news (.Call fe [e1, e2] [] p) post :=
  ev_call hfe hk (P := fun vs n => (Som2 fun t u => vs = [.int x t, .int y u]) ∧ n = news) (evs_cons h1 (fun v n ⟨⟨t, a1⟩, a2⟩ => by subst a1; subst a2; exact evs_cons h2 (fun v n ⟨⟨u, a3⟩, a4⟩ => by subst a3; subst a4; exact evs_nil.mono fun vs n ⟨a5, a6⟩ => by subst a5; exact ⟨⟨t, u, rfl⟩, a6⟩) he2) he1)
    (fun vs n ⟨⟨t, u, a1⟩, a2⟩ => by subst a1; subst a2; exact hc t u) hr he1 hplain hst
theorem evI_num {e : PySem.Expr} {v : Value} {m k : Nat} {q : Rat} {p1 p2 : Pos} (he : EvV C en l news e v) (hf : FrIn news v m q) : EvI C en l news (.Subscript e (.Constant (.int 0) k p1) p2) q.num := by
  obtain ⟨r, t1, t2, c, rfl, hm, _⟩ := hf
  exact evI_of (ev_item (vs := [.int q.num t1, .int (q.den : Int) t2]) he evI_const hm (by decide) (by decide) (j := 0) rfl rfl)
theorem evI_den {e : PySem.Expr} {v : Value} {m k : Nat} {q : Rat} {p1 p2 : Pos} (he : EvV C en l news e v) (hf : FrIn news v m q) : EvI C en l news (.Subscript e (.Constant (.int 1) k p1) p2) (q.den : Int) := by
  obtain ⟨r, t1, t2, c, rfl, hm, _⟩ := hf
  exact evI_of (ev_item (vs := [.int q.num t1, .int (q.den : Int) t2]) he evI_const hm (by decide) (by decide) (j := 1) rfl rfl)
end

end Mine

end
section
set_option linter.unusedVariables false
open PySem PySem.W PyProof.Rows PySem.Calls
set_option Elab.async false
set_option maxRecDepth 100000
set_option maxHeartbeats 1000000
namespace Mine
/-- a contract of a def out of its body -/
theorem con_ofB {W : Wx} {room : Nat} {f : Addr} {vals : List Value} {news : Led} {R : Value → Led → Prop} {name qual : Str} {params : Arguments} {body : List Stmt} {scope : Scope} {dV kV doc pm cdv ct oc : Value} {an od : Option Addr} {osl : Array (Option Value)} (binds : List (Str × Value)) {l : Bnd}
    (ho : (hd.heap_39 W.w.params).lookup f = some ⟨oc, od, .func (fnOf name qual params body scope dV kV doc pm an cdv ct), osl⟩) (hcd : codeIn (hd.heap_39 W.w.params) cdv qual = true)
    (hbind : ∀ s : Shared, (hd.heap_39 W.w.params).In s.heap → BindsTo s (fnOf name qual params body scope dV kV doc pm an cdv ct) ⟨vals, []⟩ binds) (hloc : (binds.all fun x => decide (scope.names.lookup x.1 = some .local)) = true)
    (hco : scope.isCoroutine = false) (hgen : scope.isGenerator = false) (hk : scope.kind = .function) (hcell : ∀ x ∈ scope.names, x.2 ≠ .cell)
    (hl : binds.reverse = l) (hb : ∀ C : Cx W room scope [], Ex C C.env l news body R (fun _ _ => False)) : Con W.w W.mean W.mg W.mb (room + 1) f news vals R := by
  subst hl
  intro dp un gd cn cs fa ccd cl outer A₀ base h₀ L m s Q E B F X N T hkc hd hu q
  refine wpAny_call (code_def B F X N T rfl rfl hkc ho hcd (Nat.lt_of_le_of_lt (Nat.le_add_right _ _) hd) (hbind s (X.keeps F.keep)) (locs hloc) (fun g L' h₁ FG F' N' B' X' T' => ?_) hco hgen hk hcell)
  refine hb ⟨dp + 1, un + 3, gd, qual, f, cdv, envX cn cs L fa ccd cl :: outer, _, base, g, L', B', X', T', hk, by omega, by omega⟩ _ _ _ PassesOwn.leaving F' N' ?_ ?_
  · intro v l' n' h' tk' F2 N2 p
    exact leaveK_ F2 N2 fun F3 N3 => q v n' h' tk' F3 N3 p
  · intro l' n' h' tk' F2 N2 p
    exact p.elim
theorem con_of {W : Wx} {room : Nat} {f : Addr} {vals : List Value} {news : Led} {R : Value → Led → Prop} {name qual : Str} {params : Arguments} {body : List Stmt} {scope : Scope} {dV kV doc pm cdv ct oc : Value} {an od : Option Addr} {osl : Array (Option Value)} (binds : List (Str × Value)) {l : Bnd}
    (ho : (hd.heap_39 W.w.params).lookup f = some ⟨oc, od, .func (fnOf name qual params body scope dV kV doc pm an cdv ct), osl⟩) (hcd : codeIn (hd.heap_39 W.w.params) cdv qual = true)
    (hbind : bindArgs (fnOf name qual params body scope dV kV doc pm an cdv ct) ⟨vals, []⟩ = pure binds) (hloc : (binds.all fun x => decide (scope.names.lookup x.1 = some .local)) = true)
    (hco : scope.isCoroutine = false) (hgen : scope.isGenerator = false) (hk : scope.kind = .function) (hcell : ∀ x ∈ scope.names, x.2 ≠ .cell)
    (hl : binds.reverse = l) (hb : ∀ C : Cx W room scope [], Ex C C.env l news body R (fun _ _ => False)) : Con W.w W.mean W.mg W.mb (room + 1) f news vals R :=
  con_ofB binds ho hcd (fun _ _ => BindsTo.of_eq hbind) hloc hco hgen hk hcell hl hb
theorem kfill (w : World) : (model PySem.Challenge.rw_nu0005_01.row.prog w, hd.heap_39 w.params) = (model PySem.Challenge.rw_nu0005_01.row.prog w, hd.heap_39 w.params) := by
  k_fill
  rfl
/-- a def of the text: its name, its place -/
def Fn (W : Wx) (x : Str) (a : Addr) : Prop := nsIn (hd.heap_39 W.w.params) mainGlobals x = some (some (.ref a)) ∧ keepIn (hd.heap_39 W.w.params) (.ref a) = true
theorem fn_common_divisor (W : Wx) : Fn W (Str.ofString "common_divisor") 72 := ⟨by k_is, by k_is⟩
theorem fn_fraction (W : Wx) : Fn W (Str.ofString "fraction") 80 := ⟨by k_is, by k_is⟩
theorem fn_plus (W : Wx) : Fn W (Str.ofString "plus") 87 := ⟨by k_is, by k_is⟩
theorem fn_minus (W : Wx) : Fn W (Str.ofString "minus") 94 := ⟨by k_is, by k_is⟩
theorem fn_times (W : Wx) : Fn W (Str.ofString "times") 101 := ⟨by k_is, by k_is⟩
theorem fn_mixed (W : Wx) : Fn W (Str.ofString "mixed") 108 := ⟨by k_is, by k_is⟩
theorem fn_steps_of (W : Wx) : Fn W (Str.ofString "steps_of") 113 := ⟨by k_is, by k_is⟩
theorem fn_at (W : Wx) : Fn W (Str.ofString "at") 120 := ⟨by k_is, by k_is⟩
theorem fn_split (W : Wx) : Fn W (Str.ofString "split") 125 := ⟨by k_is, by k_is⟩
theorem fn_part (W : Wx) : Fn W (Str.ofString "part") 132 := ⟨by k_is, by k_is⟩
theorem fn_reversed_curve (W : Wx) : Fn W (Str.ofString "reversed_curve") 139 := ⟨by k_is, by k_is⟩
theorem fn_raised (W : Wx) : Fn W (Str.ofString "raised") 146 := ⟨by k_is, by k_is⟩
theorem fn_as_cubic (W : Wx) : Fn W (Str.ofString "as_cubic") 153 := ⟨by k_is, by k_is⟩
theorem fn_derivative (W : Wx) : Fn W (Str.ofString "derivative") 160 := ⟨by k_is, by k_is⟩
theorem fn_law_pool (W : Wx) : Fn W (Str.ofString "_law_pool") 167 := ⟨by k_is, by k_is⟩
theorem fn_law_take (W : Wx) : Fn W (Str.ofString "_law_take") 174 := ⟨by k_is, by k_is⟩
theorem fn_law_one (W : Wx) : Fn W (Str.ofString "_law_one") 181 := ⟨by k_is, by k_is⟩
theorem fn_law_number (W : Wx) : Fn W (Str.ofString "_law_number") 188 := ⟨by k_is, by k_is⟩
theorem fn_law_point (W : Wx) : Fn W (Str.ofString "_law_point") 195 := ⟨by k_is, by k_is⟩
theorem fn_law_low (W : Wx) : Fn W (Str.ofString "_law_low") 202 := ⟨by k_is, by k_is⟩
theorem fn_law_sum (W : Wx) : Fn W (Str.ofString "_law_sum") 209 := ⟨by k_is, by k_is⟩
theorem fn_law_at (W : Wx) : Fn W (Str.ofString "_law_at") 216 := ⟨by k_is, by k_is⟩
theorem fn_law_between (W : Wx) : Fn W (Str.ofString "_law_between") 223 := ⟨by k_is, by k_is⟩
theorem fn_law_rate (W : Wx) : Fn W (Str.ofString "_law_rate") 228 := ⟨by k_is, by k_is⟩
theorem fn_law_split_right (W : Wx) : Fn W (Str.ofString "_law_split_right") 235 := ⟨by k_is, by k_is⟩
theorem bi_len (W : Wx) : nsIn (hd.heap_39 W.w.params) mainGlobals (Str.ofString "len") = some none ∧ bootBuiltins (Str.ofString "len") = some (.builtin "len") := ⟨by k_is, by boot_fast⟩
theorem bi_tuple (W : Wx) : nsIn (hd.heap_39 W.w.params) mainGlobals (Str.ofString "tuple") = some none ∧ bootBuiltins (Str.ofString "tuple") = some (.type "tuple") := ⟨by k_is, by boot_fast⟩
theorem bi_abs (W : Wx) : nsIn (hd.heap_39 W.w.params) mainGlobals (Str.ofString "abs") = some none ∧ bootBuiltins (Str.ofString "abs") = some (.builtin "abs") := ⟨by k_is, by boot_fast⟩
theorem bi_range (W : Wx) : nsIn (hd.heap_39 W.w.params) mainGlobals (Str.ofString "range") = some none ∧ bootBuiltins (Str.ofString "range") = some (.type "range") := ⟨by k_is, by boot_fast⟩
theorem bi_zip (W : Wx) : nsIn (hd.heap_39 W.w.params) mainGlobals (Str.ofString "zip") = some none ∧ bootBuiltins (Str.ofString "zip") = some (.type "zip") := ⟨by k_is, by boot_fast⟩

end Mine

end
section
set_option linter.unusedVariables false
open PySem PySem.W PyProof.Rows PySem.Calls
set_option Elab.async false
set_option maxRecDepth 100000
set_option maxHeartbeats 1000000
namespace Mine
section
variable {W : Wx} {room : Nat} {sc : Scope} {cl : List (Str × Addr)} {C : Cx W room sc cl} {en : Env} {l : Bnd} {news : Led}
/-- a smaller ledger will do -/
theorem Ev.sub {news' : Led} {e : PySem.Expr} {P : Value → Led → Prop} (h : Ev C en l news' e P) (hs : ∀ p ∈ news', p ∈ news) : Ev C en l news e P := fun E Q s F N q => h E Q s F (cb_drop N hs) q
theorem Con.sub {w : World} {mean : ExcName → Option Value} {mg mb : Str → Option Value} {cost : Nat} {f : Addr} {news news' : Led} {vs : List Value} {P : Value → Led → Prop} (h : Con w mean mg mb cost f news' vs P) (hs : ∀ p ∈ news', p ∈ news) : Con w mean mg mb cost f news vs P :=
  fun dp un gd cn cs a ccd cl outer A₀ base h₀ L m s Q E B F X N T hk hd hu q => h dp un gd cn cs a ccd cl outer A₀ base h₀ L m s Q E B F X (cb_drop N hs) T hk hd hu q
theorem Ex.sub {news' : Led} {ss : List Stmt} {R : Value → Led → Prop} {N : Bnd → Led → Prop} (h : Ex C en l news' ss R N) (hs : ∀ p ∈ news', p ∈ news) : Ex C en l news ss R N := fun E Q s pe F Nw r k => h E Q s pe F (cb_drop Nw hs) r k
theorem Ex.mono {ss : List Stmt} {R R' : Value → Led → Prop} {N N' : Bnd → Led → Prop} (h : Ex C en l news ss R N) (hr : ∀ v n, R v n → R' v n) (hn : ∀ l n, N l n → N' l n) : Ex C en l news ss R' N' :=
  fun E Q s pe F Nw r k => h E Q s pe F Nw (fun v l' n h' tk F' N' p => r v l' n h' tk F' N' (hr v n p)) (fun l' n h' tk F' N' p => k l' n h' tk F' N' (hn l' n p))
/-- tests -/
def Tst (C : Cx W room sc cl) (en : Env) (l : Bnd) (news : Led) (t : PySem.Expr) (P : Bool → Led → Prop) : Prop :=
  ∀ (whole : Sem Value) (E : Value → Shared → Prop) (Q : Bool → Shared → Prop) (s : Shared), Fr C.h₀ C.L s.heap (look l) → News C.h₀ C.L s.heap news →
    (∀ c n h' tk', Fr C.h₀ C.L h' (look l) → News C.h₀ C.L h' n → P c n → Q c { s with heap := h', toks := tk' }) → wpAny (model PR W.w) C.A (isTrue t en whole) Q E s
theorem Tst.mono {t : PySem.Expr} {P P' : Bool → Led → Prop} (h : Tst C en l news t P) (k : ∀ c n, P c n → P' c n) : Tst C en l news t P' := fun w E Q s F N q => h w E Q s F N fun c n h' tk F' N' p => q c n h' tk F' N' (k c n p)
noncomputable def cmpI : CmpOp → Int → Int → Option Bool
  | .Eq, x, y => some (x == y)
  | .NotEq, x, y => some (x != y)
  | .Lt, x, y => some (decide (x < y))
  | .Gt, x, y => some (decide (y < x))
  | .GtE, x, y => some (decide (y ≤ x))
  | _, _, _ => none
theorem cmpI_op {prog : Program} {w : World} {A : Around} {E : Value → Shared → Prop} {s : Shared} {op : CmpOp} {x y : Int} {t u : Tok} {c : Bool} {Q : Value → Shared → Prop} (hop : cmpI op x y = some c) (h : Q (.bool c) s) : wpAny (model prog w) A (compareOp op (.int x t) (.int y u)) Q E s := by
  unfold cmpI at hop
  split at hop
  · cases hop; exact eq_int h
  · cases hop; exact ne_int h
  · cases hop; exact lt_int h
  · cases hop; exact gt_int h
  · cases hop; exact ge_int h
  · cases hop
theorem truthy_b {M : Model} {A : Around} {E : Value → Shared → Prop} {s : Shared} {c : Bool} {Q : Bool → Shared → Prop} (h : Q c s) : wpAny M A (truthy (.bool c)) Q E s := fun _ _ _ => h
theorem tst_cmp {a b : PySem.Expr} {op : CmpOp} {p : Pos} {Pa : Value → Led → Prop} {Pb : Value → Value → Led → Prop} {P : Bool → Led → Prop} (ha : Ev C en l news a Pa) (hb : ∀ v n, Pa v n → Ev C en l n b (Pb v))
    (hc : ∀ v w n (E : Value → Shared → Prop) (Q : Value → Shared → Prop) (s : Shared), Pb v w n → News C.h₀ C.L s.heap n → (∀ c, P c n → Q (.bool c) s) → wpAny (model PR W.w) C.A (compareOp op v w) Q E s) (hm : behindInMarks op b = false) : Tst C en l news (.Compare a [op] [b] p) P :=
  fun w E Q s F N q => wpAny_isTrue_Compare1 (ha E _ s F N fun v n h' tk F' N' p => hb v n p E _ _ F' N' fun w n2 h2 tk2 F2 N2 p2 => hc v w n2 E _ _ p2 N2 fun c pc => (fun _ _ _ => q c n2 h2 tk2 F2 N2 pc)) hm
theorem ev_cmp {a b : PySem.Expr} {op : CmpOp} {p : Pos} {Pa : Value → Led → Prop} {Pb : Value → Value → Led → Prop} {P : Bool → Led → Prop} (ha : Ev C en l news a Pa) (hb : ∀ v n, Pa v n → Ev C en l n b (Pb v))
    (hc : ∀ v w n (E : Value → Shared → Prop) (Q : Value → Shared → Prop) (s : Shared), Pb v w n → News C.h₀ C.L s.heap n → (∀ c, P c n → Q (.bool c) s) → wpAny (model PR W.w) C.A (compareOp op v w) Q E s) (hm : behindInMarks op b = false) : Ev C en l news (.Compare a [op] [b] p) (fun r n => ∃ c, r = .bool c ∧ P c n) :=
  fun E Q s F N q => wpAny_Compare1 (ha E _ s F N fun v n h' tk F' N' p => hb v n p E _ _ F' N' fun w n2 h2 tk2 F2 N2 p2 => hc v w n2 E _ _ p2 N2 fun c pc => q _ n2 h2 tk2 F2 N2 ⟨c, rfl, pc⟩) hm
theorem tst_intP {a b : PySem.Expr} {op : CmpOp} {p : Pos} {x y : Int} {c : Bool} {Pa P : Led → Prop} (ha : Ev C en l news a (fun r n => (∃ t, r = .int x t) ∧ Pa n)) (hb : ∀ n, Pa n → Ev C en l n b (fun r n' => (∃ t, r = .int y t) ∧ P n')) (hop : cmpI op x y = some c) (hm : behindInMarks op b = false) : Tst C en l news (.Compare a [op] [b] p) (fun c' n => c' = c ∧ P n) :=
  tst_cmp ha (Pb := fun v w n => (∃ t, v = .int x t) ∧ (∃ t, w = .int y t) ∧ P n) (fun v n ⟨a1, a2⟩ => (hb n a2).mono fun w n' a3 => ⟨a1, a3⟩) (fun v w n E Q s ⟨⟨t, a1⟩, ⟨u, a2⟩, a3⟩ N q => by subst a1; subst a2; exact cmpI_op hop (q c ⟨rfl, a3⟩)) hm
theorem tst_int {a b : PySem.Expr} {op : CmpOp} {p : Pos} {x y : Int} {c : Bool} (ha : EvI C en l news a x) (hb : EvI C en l news b y) (hop : cmpI op x y = some c) (hm : behindInMarks op b = false) : Tst C en l news (.Compare a [op] [b] p) (fun c' n => c' = c ∧ n = news) :=
  tst_intP ha (fun n e => by subst e; exact hb) hop hm
/-- points read as data -/
noncomputable def ptData (q : Pt) : PyData := .tuple [.tuple [.int q.1.num, .int (q.1.den : Int)], .tuple [.int q.2.num, .int (q.2.den : Int)]]
theorem FrIn.reads {h₀ h : Heap} {L : Addr} {n : Led} {m : Nat} {v : Value} {q : Rat} (N : News h₀ L h n) (hp : FrIn n v m q) : Reads h v (.tuple [.int q.num, .int (q.den : Int)]) [] := by
  obtain ⟨a, t1, t2, c, rfl, hm, _⟩ := hp
  exact reads_tuple_at (N _ hm).1 rfl rfl (.cons (.int _ t1) (.cons (.int _ t2) .nil))
theorem PtIn.reads {h₀ h : Heap} {L : Addr} {n : Led} {m : Nat} {v : Value} {q : Pt} (N : News h₀ L h n) (hp : PtIn n m v q) : Reads h v (ptData q) [] := by
  obtain ⟨a, v1, v2, c, rfl, hm, h1, h2⟩ := hp
  exact reads_tuple_at (N _ hm).1 rfl rfl (.cons (h1.reads N) (.cons (h2.reads N) .nil))
theorem pt_shaped (q : Pt) : SeqAt.shaped (ptData q) = true := by
  simp [ptData, SeqAt.shaped, PyData.canLay0, PyData.canLayAll0, PyData.depth, PyData.depthAll]
theorem pt_eqv (q : Pt) : PyData.eqv (ptData q) (ptData q) = true := by
  simp [ptData, PyData.eqv, PyData.eqvAll]
noncomputable def cmpSame : CmpOp → Option Bool
  | .Eq => some true
  | .NotEq => some false
  | _ => none
theorem Cx.units (C : Cx W room sc cl) (h8 : 8 ≤ room) : C.A.units + 64 < cLine := by
  have := C.hun
  show C.un + 64 < cLine
  omega
theorem cmpSame_op {E : Value → Shared → Prop} {s : Shared} {op : CmpOp} {c : Bool} {v w : Value} {n : Led} {m1 m2 : Nat} {q : Pt} {Q : Value → Shared → Prop} (h8 : 8 ≤ room) (N : News C.h₀ C.L s.heap n) (h1 : PtIn n m1 v q) (h2 : PtIn n m2 w q) (hop : cmpSame op = some c) (h : Q (.bool c) s) : wpAny (model PR W.w) C.A (compareOp op v w) Q E s := by
  cases op <;> first | (cases hop; done) | skip
  · injection hop with e; subst e
    exact eq_dataH (h1.reads N) (h2.reads N) (pt_shaped q) (pt_shaped q) (C.units h8) (by rw [pt_eqv]; exact h)
  · injection hop with e; subst e
    exact ne_dataH (h1.reads N) (h2.reads N) (pt_shaped q) (pt_shaped q) (C.units h8) (by rw [pt_eqv]; exact h)
/-- two points that are the same -/
def Same2 (v w : Value) (n : Led) : Prop := Som3 fun m1 m2 q => PtIn n m1 v q ∧ PtIn n m2 w q
theorem tst_pt {a b : PySem.Expr} {op : CmpOp} {p : Pos} {c : Bool} {Pa : Value → Led → Prop} {P : Led → Prop} (h8 : 8 ≤ room) (ha : Ev C en l news a Pa) (hb : ∀ v n, Pa v n → Ev C en l n b (fun w n' => Same2 v w n' ∧ P n')) (hop : cmpSame op = some c) (hm : behindInMarks op b = false) : Tst C en l news (.Compare a [op] [b] p) (fun c' n => c' = c ∧ P n) :=
  tst_cmp ha hb (fun v w n E Q s ⟨⟨m1, m2, q0, h1, h2⟩, h3⟩ N q => cmpSame_op h8 N h1 h2 hop (q c ⟨rfl, h3⟩)) hm
theorem ev_pt {a b : PySem.Expr} {op : CmpOp} {p : Pos} {c : Bool} {Pa : Value → Led → Prop} {P : Led → Prop} (h8 : 8 ≤ room) (ha : Ev C en l news a Pa) (hb : ∀ v n, Pa v n → Ev C en l n b (fun w n' => Same2 v w n' ∧ P n')) (hop : cmpSame op = some c) (hm : behindInMarks op b = false) : Ev C en l news (.Compare a [op] [b] p) (fun r n => r = .bool c ∧ P n) :=
  (ev_cmp (P := fun c' n => c' = c ∧ P n) ha hb (fun v w n E Q s ⟨⟨m1, m2, q0, h1, h2⟩, h3⟩ N q => cmpSame_op h8 N h1 h2 hop (q c ⟨rfl, h3⟩)) hm).mono fun r n ⟨c', e1, e2, e3⟩ => ⟨e2 ▸ e1, e3⟩
/-- and, or -/
theorem tst_and {x : PySem.Expr} {rest : List PySem.Expr} {p : Pos} {Px P : Bool → Led → Prop} (hx : Tst C en l news x Px) (hr : ∀ n, Px true n → Tst C en l n (.BoolOp .And rest p) P) (hf : ∀ n, Px false n → P false n) : Tst C en l news (.BoolOp .And (x :: rest) p) P :=
  fun w E Q s F N q => isTrue_and (hx _ E _ s F N fun c n h' tk F' N' px => by
    cases c with
    | true => exact hr n px w E Q _ F' N' q
    | false => exact q false n h' tk F' N' (hf n px))
theorem tst_and0 {p : Pos} {P : Bool → Led → Prop} (h : P true news) : Tst C en l news (.BoolOp .And [] p) P := fun w E Q s F N q => isTrue_and_nil (q true news s.heap s.toks F N h)
theorem tst_or {x : PySem.Expr} {rest : List PySem.Expr} {p : Pos} {Px P : Bool → Led → Prop} (hx : Tst C en l news x Px) (hr : ∀ n, Px false n → Tst C en l n (.BoolOp .Or rest p) P) (hf : ∀ n, Px true n → P true n) : Tst C en l news (.BoolOp .Or (x :: rest) p) P :=
  fun w E Q s F N q => isTrue_or (hx _ E _ s F N fun c n h' tk F' N' px => by
    cases c with
    | false => exact hr n px w E Q _ F' N' q
    | true => exact q true n h' tk F' N' (hf n px))
theorem tst_or0 {p : Pos} {P : Bool → Led → Prop} (h : P false news) : Tst C en l news (.BoolOp .Or [] p) P := fun w E Q s F N q => isTrue_or_nil (q false news s.heap s.toks F N h)
theorem ev_and2 {x y : PySem.Expr} {p : Pos} {P : Led → Prop} {P' : Value → Led → Prop} (hx : Ev C en l news x (fun r n => r = .bool true ∧ P n)) (hy : ∀ n, P n → Ev C en l n y P') : Ev C en l news (.BoolOp .And [x, y] p) P' :=
  fun E Q s F N q => BoolOp_and (hx E _ s F N fun v n h' tk F' N' ⟨e1, e2⟩ => by
    subst e1
    refine truthy_b ?_
    simp only [if_true]
    exact BoolOp_one (hy n e2 E Q _ F' N' q))
theorem ex_ifT {t : PySem.Expr} {a b : List Stmt} {p : Pos} {ss : List Stmt} {R : Value → Led → Prop} {N : Bnd → Led → Prop} {P : Bool → Led → Prop} (ht : Tst C en l news t P) (h1 : ∀ n, P true n → Ex C en l n a R (fun l' n' => Ex C en l' n' ss R N)) (h2 : ∀ n, P false n → Ex C en l n b R (fun l' n' => Ex C en l' n' ss R N)) : Ex C en l news (.If t a b p :: ss) R N :=
  fun E Q s pe F Nw r kn => wpAny_execs_cons (wpAny_If (ht _ E _ s F Nw fun c n h' tk F' N' px => by
    cases c with
    | true => exact h1 n px E _ _ pe F' N' r fun l' n' h2 tk2 F2 N2 x => x E Q _ pe F2 N2 r kn
    | false => exact h2 n px E _ _ pe F' N' r fun l' n' h2 tk2 F2 N2 x => x E Q _ pe F2 N2 r kn))
/-- a test that fails, with nothing else behind it -/
theorem ex_ifF {t : PySem.Expr} {a : List Stmt} {p : Pos} {ss : List Stmt} {R : Value → Led → Prop} {N : Bnd → Led → Prop} {P : Led → Prop} (ht : Tst C en l news t (fun c n => c = false ∧ P n)) (h2 : ∀ n, P n → Ex C en l n ss R N) : Ex C en l news (.If t a [] p :: ss) R N :=
  ex_ifT ht (fun n h => nomatch h.1) (fun n h => ex_nil (h2 n h.2))
/-- while -/
theorem ex_while {t : PySem.Expr} {a : List Stmt} {p : Pos} {ss : List Stmt} {R : Value → Led → Prop} {N : Bnd → Led → Prop} (J : Nat → Bnd → Led → Prop) (Pt : Nat → Bnd → Bool → Led → Prop) (n₀ : Nat) (h0 : J n₀ l news)
    (ht : ∀ k l' n, J k l' n → Tst C en l' n t (Pt k l')) (h1 : ∀ k l' n, Pt k l' true n → Ex C en l' n a R (fun l'' n' => ∃ k', k' < k ∧ J k' l'' n')) (h2 : ∀ k l' n, Pt k l' false n → Ex C en l' n ss R N) : Ex C en l news (.While t a [] p :: ss) R N :=
  fun E Q s pe F Nw r kn => by
    refine wpAny_execs_cons (While_inv2 (fun k m n => ∃ l', m = look l' ∧ J k l' n) (n₀ := n₀) F Nw ⟨l, rfl, h0⟩ ?_ pe)
    rintro k m n h tk F1 N1 ⟨l', rfl, hj⟩
    refine ht k l' n hj _ E _ _ F1 N1 fun c n' h' tk' F' N' px => ?_
    cases c with
    | false => exact h2 k l' n' px E Q _ pe F' N' r kn
    | true =>
      refine h1 k l' n' px E _ _ pe F' N' r fun l'' n'' h3 tk3 F3 N3 ⟨k', hk, hj'⟩ => ?_
      exact ⟨h3, tk3, look l'', n'', k', rfl, F3, N3, hk, l'', rfl, hj'⟩
/-- an item of what the ledger bears -/
def IsL (o : Obj) (vs : List Value) : Prop := o.cls = .type "list" ∧ ∃ c, o.data = .seq vs.toArray c
theorem isL (vs : List Value) (c : Nat) : IsL (listOf vs.toArray c) vs := ⟨rfl, c, rfl⟩
def Seq (r : Addr) (vs : List Value) (n : Led) : Prop := (∃ c, (r, tupO vs.toArray c) ∈ n) ∨ ∃ o, (r, o) ∈ n ∧ IsL o vs
theorem seqT {r : Addr} {vs : List Value} {n : Led} {c : Nat} (h : (r, tupO vs.toArray c) ∈ n) : Seq r vs n := .inl ⟨c, h⟩
theorem seqL {r : Addr} {vs : List Value} {n : Led} {c : Nat} (h : (r, listOf vs.toArray c) ∈ n) : Seq r vs n := .inr ⟨_, h, isL vs c⟩
def At (vs : List Value) (k : Int) (x : Value) : Prop := ∃ j, seqIndex? k vs.length = some j ∧ vs[j]? = some x
theorem seqI_nn {k : Int} {n : Nat} (h0 : 0 ≤ k) (hl : k.toNat < n) : seqIndex? k n = some k.toNat := by
  unfold seqIndex?
  rw [if_neg (Int.not_lt.mpr h0)]
  exact if_pos (by rw [decide_eq_true h0, decide_eq_true ((Int.toNat_lt h0).mp hl)]; rfl)
theorem At.of {vs : List Value} {k : Int} {x : Value} (h0 : 0 ≤ k) (hx : vs[k.toNat]? = some x) : At vs k x := by
  have hlt : k.toNat < vs.length := (List.getElem?_eq_some_iff.mp hx).1
  exact ⟨k.toNat, seqI_nn h0 hlt, hx⟩
theorem At.last {vs : List Value} {x : Value} (hx : vs[vs.length - 1]? = some x) : At vs (-1) x := by
  have hlt : vs.length - 1 < vs.length := (List.getElem?_eq_some_iff.mp hx).1
  refine ⟨vs.length - 1, ?_, hx⟩
  obtain ⟨j, e⟩ := Nat.exists_eq_succ_of_ne_zero (Nat.ne_of_gt (Nat.lt_of_le_of_lt (Nat.zero_le _) hlt))
  rw [e]
  have e2 : (-1 : Int) + ((j.succ : Nat) : Int) = (j : Int) := by omega
  unfold seqIndex?
  rw [if_pos (show (-1 : Int) < 0 by decide), e2]
  exact if_pos (by rw [decide_eq_true (Int.natCast_nonneg j), decide_eq_true (Int.ofNat_lt.mpr (Nat.lt_succ_self j))]; rfl)
theorem ix_lo {i : Nat} : -(2 ^ 63) ≤ (i : Int) := Int.le_trans (by decide) (Int.natCast_nonneg i)
theorem ix_hi {i n : Nat} (h : i < n) (hn : n ≤ 16384) : (i : Int) < 2 ^ 63 := Int.lt_of_lt_of_le (Int.ofNat_lt.mpr (Nat.lt_of_lt_of_le h hn)) (by decide)
theorem ix_lo0 {i : Nat} : -(2 ^ 63) ≤ 0 + (i : Int) := (Int.zero_add (i : Int)).symm ▸ ix_lo
theorem ix_hi0 {i n : Nat} (h : i < n) (hn : n ≤ 16384) : 0 + (i : Int) < 2 ^ 63 := (Int.zero_add (i : Int)).symm ▸ ix_hi h hn
theorem nn0 {i : Nat} : 0 ≤ 0 + (i : Int) := (Int.zero_add (i : Int)).symm ▸ Int.natCast_nonneg i
theorem item_seq {value slice : PySem.Expr} {prog : Program} {w : World} {A : Around} {E : Value → Shared → Prop} {s : Shared} {h₀ : Heap} {L : Addr} {news : Led} {r : Addr} {vs : List Value} {k : Int} {u : Tok} {x : Value} {Q : Value → Shared → Prop} (N : News h₀ L s.heap news) (hq : Seq r vs news)
    (hlo : -(2 ^ 63) ≤ k) (hhi : k < 2 ^ 63) (hx : At vs k x) (h : Q x s)
    (hs : subscripted slice false (.ref r) (.int k u) = operate [.ref r, .int k u] (getItem (.ref r) (.int k u))) : wpAny (model prog w) A (subscriptTail value slice (.ref r) (.int k u)) Q E s := by
  obtain ⟨j, hj, hx⟩ := hx
  obtain ⟨c, hm⟩ | ⟨o, hm, hc, c, hd⟩ := hq
  · exact it_tup N hm hlo hhi (by simpa using hj) (by simpa using hx) h hs
  · have hl : s.heap.IsList r vs.toArray := ⟨_, (N _ hm).1, hc, c, hd⟩
    by_cases h0 : k < 0
    · exact kde_neg hl h0 hlo hj hx h hs
    · refine tail_any hl.typeIs slot_list_getitem.lookup (wpAny_getItem_list hl (by omega) hhi ?_ h) hs
      have : j = k.toNat := by
        unfold seqIndex? at hj
        rw [if_neg h0] at hj
        replace hj : (if (decide (0 ≤ k) && decide (k < vs.length)) = true then some k.toNat else none) = some j := hj
        split at hj
        · cases hj; rfl
        · cases hj
      subst this
      simpa using hx
theorem ev_sub {a b : PySem.Expr} {p : Pos} (k : Int) {P post : Value → Led → Prop} (ha : Ev C en l news a P) (hb : ∀ v n, P v n → EvI C en l n b k) (hi : ∀ v n, P v n → Som3 fun r vs x => Amd4 (v = .ref r) (Seq r vs n) (At vs k x) (post x n)) (hlo : -(2 ^ 63) ≤ k) (hhi : k < 2 ^ 63)
    (hs : ∀ r u, subscripted b false (.ref r) (.int k u) = operate [.ref r, .int k u] (getItem (.ref r) (.int k u)) := by intro r u; with_unfolding_all rfl) : Ev C en l news (.Subscript a b p) post :=
  fun E Q s F N q => Subscript_ (ha E _ s F N fun v n h' tk F' N' pv => by
    obtain ⟨r, vs, x, e1, h1, h2, h3⟩ := hi v n pv
    subst e1
    exact hb _ n pv E _ _ F' N' fun v n2 h2' tk2 F2 N2 ⟨⟨t2, e3⟩, e4⟩ => by
      subst e3; subst e4
      exact item_seq N2 h1 hlo hhi h2 (q _ _ h2' _ F2 N2 h3) (hs _ _))
theorem ev_subV {a b : PySem.Expr} {p : Pos} {r : Addr} {vs : List Value} {k : Int} {x : Value} (ha : EvV C en l news a (.ref r)) (hb : EvI C en l news b k) (hq : Seq r vs news) (hx : At vs k x) (hlo : -(2 ^ 63) ≤ k) (hhi : k < 2 ^ 63)
    (hs : ∀ r u, subscripted b false (.ref r) (.int k u) = operate [.ref r, .int k u] (getItem (.ref r) (.int k u)) := by intro r u; with_unfolding_all rfl) : EvV C en l news (.Subscript a b p) x :=
  ev_sub k ha (fun v n ⟨e1, e2⟩ => by subst e2; exact hb) (fun v n ⟨e1, e2⟩ => ⟨r, vs, x, e1, by subst e2; exact hq, hx, rfl, e2⟩) hlo hhi hs
/-- slices -/
theorem ev_revT {a st : PySem.Expr} {p1 p2 : Pos} {r : Addr} {vs : List Value} {c : Nat} (ha : EvV C en l news a (.ref r)) (hst : EvI C en l news st (-1)) (hm : (r, tupO vs.toArray c) ∈ news) (hz : vs.length ≤ 16384)
    (hs : ∀ r i, ∃ ops, subscripted (.Slice none none (some st) p1) false (.ref r) (.ref i) = operate ops (getItem (.ref r) (.ref i))) (hg : ∀ r o, letTemporaryGo a (.ref r) o = pure ()) :
    Ev C en l news (.Subscript a (.Slice none none (some st) p1) p2) (fun v n => ∃ D, Amd3 (v = .ref D) (n = (D, tupO vs.reverse.toArray 0) :: news) (AllLt D news)) :=
  fun E Q s F N q => Subscript_ (ha E _ s F N fun v n h' tk F' N' ⟨e1, e2⟩ => by
    subst e1; subst e2
    refine wpAny_Slice (wpAny_pure (wpAny_pure ?_))
    refine hst E _ _ F' N' fun v n h2 tk2 F2 N2 ⟨⟨t2, e3⟩, e4⟩ => ?_
    subst e3; subst e4
    obtain ⟨ops, hs⟩ := hs r h2.objs.size
    exact slice_rev (s := { s with heap := h2, toks := tk2 }) (items := vs.toArray) F2 N2 ⟨_, (N2 _ hm).1, rfl, c, rfl⟩ (by rw [sizeLine_eq]; simp; omega) (fun D h3 F3 N3 l3 => q _ _ h3 _ F3 N3 ⟨D, rfl, by simp, l3⟩) hs (hg _))
theorem ev_revL {a st : PySem.Expr} {p1 p2 : Pos} {r : Addr} {vs : List Value} {c : Nat} (ha : EvV C en l news a (.ref r)) (hst : EvI C en l news st (-1)) (hm : (r, listOf vs.toArray c) ∈ news) (hz : vs.length ≤ 16384)
    (hs : ∀ r i, ∃ ops, subscripted (.Slice none none (some st) p1) false (.ref r) (.ref i) = operate ops (getItem (.ref r) (.ref i))) (hg : ∀ r o, letTemporaryGo a (.ref r) o = pure ()) :
    Ev C en l news (.Subscript a (.Slice none none (some st) p1) p2) (fun v n => ∃ D, Amd3 (v = .ref D) (n = (D, listOf vs.reverse.toArray 0) :: news) (AllLt D news)) :=
  fun E Q s F N q => Subscript_ (ha E _ s F N fun v n h' tk F' N' ⟨e1, e2⟩ => by
    subst e1; subst e2
    refine wpAny_Slice (wpAny_pure (wpAny_pure ?_))
    refine hst E _ _ F' N' fun v n h2 tk2 F2 N2 ⟨⟨t2, e3⟩, e4⟩ => ?_
    subst e3; subst e4
    obtain ⟨ops, hs⟩ := hs r h2.objs.size
    exact krv_lit (s := { s with heap := h2, toks := tk2 }) (its := vs.toArray) (zs := vs.reverse) F2 N2 ⟨_, (N2 _ hm).1, rfl, c, rfl⟩ (IsPart.int _ _) (by simp) (fun D h3 F3 N3 l3 => q _ _ h3 _ F3 N3 ⟨D, rfl, rfl, allLt_of l3⟩) hs (hg _) (by rw [sizeLine_eq]; simp; omega))
theorem ev_from1 {a st : PySem.Expr} {p1 p2 : Pos} {r : Addr} {vs : List Value} {c : Nat} (ha : EvV C en l news a (.ref r)) (hst : EvI C en l news st 1) (hm : (r, tupO vs.toArray c) ∈ news) (hz : vs.length ≤ 16384) (h1 : 1 ≤ vs.length)
    (hs : ∀ r i, subscripted (.Slice (some st) none none p1) false (.ref r) (.ref i) = operate [.ref i, .ref r] (getItem (.ref r) (.ref i))) (hg : ∀ r o, letTemporaryGo a (.ref r) o = pure ()) :
    Ev C en l news (.Subscript a (.Slice (some st) none none p1) p2) (fun v n => ∃ D, Amd3 (v = .ref D) (n = (D, tupO (vs.drop 1).toArray 0) :: news) (AllLt D news)) :=
  fun E Q s F N q => Subscript_ (ha E _ s F N fun v n h' tk F' N' ⟨e1, e2⟩ => by
    subst e1; subst e2
    refine wpAny_Slice ?_
    refine hst E _ _ F' N' fun v n h2 tk2 F2 N2 ⟨⟨t2, e3⟩, e4⟩ => ?_
    subst e3; subst e4
    refine wpAny_pure (wpAny_pure ?_)
    exact slice_tuple_from (s := { s with heap := h2, toks := tk2 }) (items := vs.toArray) (a := 1) F2 N2 ⟨_, (N2 _ hm).1, rfl, c, rfl⟩ (Nat.le_refl _) (by simpa using h1) (fun h3 F3 N3 => q _ _ h3 _ F3 N3 ⟨_, rfl, rfl, allLt_of fun p hp => Nat.lt_succ_of_lt (Heap.lt_size (N2 p hp).1)⟩) (hs _ _) (hg _) (by rw [sizeLine_eq]; simp; omega))
end

end Mine

end
section
set_option linter.unusedVariables false
open PySem PySem.W PyProof.Rows PySem.Calls
set_option Elab.async false
set_option maxRecDepth 100000
set_option maxHeartbeats 1000000
namespace Mine
section
variable {W : Wx} {room : Nat} {sc : Scope} {cl : List (Str × Addr)} {C : Cx W room sc cl} {en : Env} {l : Bnd} {news : Led}
/-- this int, and of the ledger P -/
def IntP (x : Int) (P : Led → Prop) (r : Value) (n : Led) : Prop := (∃ t, r = .int x t) ∧ P n
theorem ev_len {e : PySem.Expr} {p o : Pos} {P : Value → Led → Prop} {k : Nat} (hf : EvV C en l news (.Name (Str.ofString "len") o) (.builtin "len")) (ha : Ev C en l news e P) (hk : ∀ v n, P v n → Som2 fun r vs => Amd3 (v = .ref r) (Seq r vs n) (vs.length = k)) (hz : k ≤ 16384)
    (he : starEach [e] en = (false, eval e en) :: starEach [] en := by rfl)
    (hst : eval (.Call (.Name (Str.ofString "len") o) [e] [] p) en = (do callWith p (← eval (.Name (Str.ofString "len") o) en) [] (backTo p (starEach [e] en)) (backToKw p (keywordEach [] en))) := by rfl) : Ev C en l news (.Call (.Name (Str.ofString "len") o) [e] [] p) (IntP k fun n => ∃ v, P v n) :=
  ev_bi1 hf ha (fun v n E Q s pv F N q => by
    obtain ⟨r, vs, e1, hs, e2⟩ := hk v n pv
    subst e1; subst e2
    rcases hs with ⟨c, hm⟩ | ⟨o, hm, hc, c, hd⟩
    · exact len_op N hm hz (q _ n _ _ F N ⟨⟨_, rfl⟩, _, pv⟩)
    · refine Calls.call_len_list (items := vs.toArray) ⟨_, (N _ hm).1, hc, c, hd⟩ (by simp; omega) ?_
      exact q _ n _ _ F N ⟨⟨_, rfl⟩, _, pv⟩) he (fun _ => rfl) hst
theorem ev_lenV {e : PySem.Expr} {p o : Pos} {r : Addr} {vs : List Value} {k : Nat} (hf : EvV C en l news (.Name (Str.ofString "len") o) (.builtin "len")) (ha : EvV C en l news e (.ref r)) (hs : Seq r vs news) (hk : vs.length = k) (hz : k ≤ 16384)
    (he : starEach [e] en = (false, eval e en) :: starEach [] en := by rfl)
    (hst : eval (.Call (.Name (Str.ofString "len") o) [e] [] p) en = (do callWith p (← eval (.Name (Str.ofString "len") o) en) [] (backTo p (starEach [e] en)) (backToKw p (keywordEach [] en))) := by rfl) : EvI C en l news (.Call (.Name (Str.ofString "len") o) [e] [] p) k :=
  (ev_len hf ha (fun v n ⟨e1, e2⟩ => ⟨r, vs, e1, e2 ▸ hs, hk⟩) hz he hst).mono fun r n ⟨e1, v, e2, e3⟩ => ⟨e1, e3⟩
theorem ev_tupT {e : PySem.Expr} {p o : Pos} {P : Value → Led → Prop} (hf : EvV C en l news (.Name (Str.ofString "tuple") o) (.type "tuple")) (ha : Ev C en l news e P) (hP : ∀ v n, P v n → Som3 fun (r : Addr) (vs : Array Value) (c : Nat) => v = .ref r ∧ (r, tupO vs c) ∈ n)
    (he : starEach [e] en = (false, eval e en) :: starEach [] en := by rfl)
    (hst : eval (.Call (.Name (Str.ofString "tuple") o) [e] [] p) en = (do callWith p (← eval (.Name (Str.ofString "tuple") o) en) [] (backTo p (starEach [e] en)) (backToKw p (keywordEach [] en))) := by rfl) : Ev C en l news (.Call (.Name (Str.ofString "tuple") o) [e] [] p) P :=
  ev_ty1 hf ha (fun v n E Q s pv F N q => by
    obtain ⟨r, vs, c, e1, hm⟩ := hP v n pv
    subst e1
    exact tup_same N hm (q _ n _ _ F N pv)) he (fun _ => rfl) hst
theorem ev_tupL {e : PySem.Expr} {p o : Pos} {P post : Value → Led → Prop} (hf : EvV C en l news (.Name (Str.ofString "tuple") o) (.type "tuple")) (ha : Ev C en l news e P) (hP : ∀ v n, P v n → Som3 fun (r : Addr) (vs : List Value) (c : Nat) => Amd4 (v = .ref r) ((r, listOf vs.toArray c) ∈ n) (vs.length ≤ 16384) (∀ D, AllLt D n → post (.ref D) ((D, tupO vs.toArray 0) :: n)))
    (he : starEach [e] en = (false, eval e en) :: starEach [] en := by rfl)
    (hst : eval (.Call (.Name (Str.ofString "tuple") o) [e] [] p) en = (do callWith p (← eval (.Name (Str.ofString "tuple") o) en) [] (backTo p (starEach [e] en)) (backToKw p (keywordEach [] en))) := by rfl) : Ev C en l news (.Call (.Name (Str.ofString "tuple") o) [e] [] p) post :=
  ev_ty1 hf ha (fun v n E Q s pv F N q => by
    obtain ⟨r, vs, c, e1, hm, hz, hp⟩ := hP v n pv
    subst e1
    exact tup_list F N hm hz fun D h' F' N' ll => q _ _ _ _ F' N' (hp D ll)) he (fun _ => rfl) hst
theorem evI_abs {e : PySem.Expr} {p o : Pos} {x : Int} (hf : EvV C en l news (.Name (Str.ofString "abs") o) (.builtin "abs")) (ha : EvI C en l news e x)
    (he : starEach [e] en = (false, eval e en) :: starEach [] en := by rfl)
    (hst : eval (.Call (.Name (Str.ofString "abs") o) [e] [] p) en = (do callWith p (← eval (.Name (Str.ofString "abs") o) en) [] (backTo p (starEach [e] en)) (backToKw p (keywordEach [] en))) := by rfl) : EvI C en l news (.Call (.Name (Str.ofString "abs") o) [e] [] p) (if x < 0 then -x else x) :=
  ev_bi1 hf ha (fun v n E Q s ⟨⟨t, e1⟩, e2⟩ F N q => by
    subst e1; subst e2
    exact call_abs_int fun u tk => q _ _ _ _ F N ⟨⟨u, rfl⟩, rfl⟩) he (fun _ => rfl) hst
noncomputable abbrev rngO (a b : Int) (t u v : Tok) : Obj := { cls := .type "range", data := .fields #[.int a t, .int b u, .int 1 v] }
/-- a range made -/
def Rng (a b : Int) (P : Led → Prop) (r : Value) (n : Led) : Prop := Som5 fun D t u v n0 => Amd4 (r = .ref D) (n = (D, rngO a b t u v) :: n0) (AllLt D n0) (P n0)
theorem rng_new {h₀ : Heap} {L : Addr} {s : Shared} {m : Str → Option Value} {n : Led} {a b : Int} {t u v : Tok} (F : Fr h₀ L s.heap m) (N : News h₀ L s.heap n) : Fr h₀ L (s.heap.push (rngO a b t u v)) m ∧ News h₀ L (s.heap.push (rngO a b t u v)) ((s.heap.objs.size, rngO a b t u v) :: n) ∧ AllLt s.heap.objs.size n :=
  ⟨F.push _, N.push F _, allLt_of fun p hp => Heap.lt_size (N p hp).1⟩
theorem ev_range1 {e : PySem.Expr} {p o : Pos} {x : Int} {P : Led → Prop} (hf : EvV C en l news (.Name (Str.ofString "range") o) (.type "range")) (ha : Ev C en l news e (IntP x P))
    (he : starEach [e] en = (false, eval e en) :: starEach [] en := by rfl)
    (hst : eval (.Call (.Name (Str.ofString "range") o) [e] [] p) en = (do callWith p (← eval (.Name (Str.ofString "range") o) en) [] (backTo p (starEach [e] en)) (backToKw p (keywordEach [] en))) := by rfl) : Ev C en l news (.Call (.Name (Str.ofString "range") o) [e] [] p) (Rng 0 x P) :=
  ev_ty1 hf ha (fun v n E Q s ⟨⟨t, e1⟩, pn⟩ F N q => by
    subst e1
    obtain ⟨F2, N2, l2⟩ := rng_new (a := 0) (b := x) (t := s.toks) (u := t) (v := s.toks + 1) F N
    exact call_range_1 (q _ _ _ _ F2 N2 ⟨_, _, _, _, n, rfl, rfl, l2, pn⟩)) he (fun _ => rfl) hst
theorem ev_range2 {e1 e2 : PySem.Expr} {p o : Pos} {x y : Int} (hf : EvV C en l news (.Name (Str.ofString "range") o) (.type "range")) (h1 : EvI C en l news e1 x) (h2 : EvI C en l news e2 y)
    (he1 : starEach [e1, e2] en = (false, eval e1 en) :: starEach [e2] en := by rfl) (he2 : starEach [e2] en = (false, eval e2 en) :: starEach [] en := by rfl) (hplain : ∀ pos, (backTo pos (starEach [e2] en)).any (·.1) = false := by intro _; rfl)
    (hst : eval (.Call (.Name (Str.ofString "range") o) [e1, e2] [] p) en = (do callWith p (← eval (.Name (Str.ofString "range") o) en) [] (backTo p (starEach [e1, e2] en)) (backToKw p (keywordEach [] en))) := by rfl) : Ev C en l news (.Call (.Name (Str.ofString "range") o) [e1, e2] [] p) (Rng x y fun n => n = news) :=
  fun E Q s F N q => Call_ (hf E _ s F N fun v n h' tk F' N' ⟨a1, a2⟩ => by
    subst a1; subst a2
    refine PyProof.Rows.callWith_type1 (spliced_more (h1 E _ _ F' N' fun v n g2 tk2 F2 N2 ⟨⟨t, a3⟩, a4⟩ => ?_) he1) he1 (hplain p)
    subst a3; subst a4
    refine spliced_more (h2 E _ _ F2 N2 fun v n g3 tk3 F3 N3 ⟨⟨u, a5⟩, a6⟩ => ?_) he2
    subst a5; subst a6
    refine spliced_none ?_
    obtain ⟨F4, N4, l4⟩ := rng_new (s := { s with heap := g3, toks := tk3 }) (a := x) (b := y) (t := t) (u := u) (v := tk3) F3 N3
    exact call_range_2 (s := { s with heap := g3, toks := tk3 }) (q _ _ _ _ F4 N4 ⟨_, _, _, _, _, rfl, rfl, l4, rfl⟩)) hst
/-- floor division -/
theorem cx_pyl {s : Shared} {m : Str → Option Value} (F : Fr C.h₀ C.L s.heap m) (hr : 100 ≤ room) (h1 : sc.isGenerator = false) (h2 : sc.isCoroutine = false) : PylongRoom (model PR W.w) C.A s :=
  PylongRoom.of (Heap.NoLimit.keeps (Top.nolimit C.T) (Fr.keep F)) (by have := C.hdp; show C.dp + 100 < recursionLimit; omega)
    (SeerAt.of (Heap.NoSeer.keeps (Top.seer C.T (by decide +kernel)) (Fr.keep F)) rfl (env := C.env) (l := C.outer) rfl h1 h2 rfl rfl)
theorem evI_div {a b : PySem.Expr} {x y : Int} {p : Pos} (ha : EvI C en l news a x) (hb : EvI C en l news b y) (hm : y ≠ 0) (hr : 100 ≤ room) (h1 : sc.isGenerator = false := by rfl) (h2 : sc.isCoroutine = false := by rfl) : EvI C en l news (.BinOp a .FloorDiv b p) (x.fdiv y) :=
  evI_bin ha hb fun _ _ _ _ _ F q => floordiv_int hm (q _) (.inr (cx_pyl F hr h1 h2))
theorem evI_divS {a b : PySem.Expr} {x y : Int} {p : Pos} (ha : EvI C en l news a x) (hb : EvI C en l news b y) (hm : y ≠ 0) (hs : y.natAbs < 1073741824) : EvI C en l news (.BinOp a .FloorDiv b p) (x.fdiv y) :=
  evI_bin ha hb fun _ _ _ _ _ F q => floordiv_int hm (q _) (.inl (PyProof.noPylong_small hs))
/-- tuples joined -/
theorem ev_addT {a b : PySem.Expr} {p : Pos} {Pa : Value → Led → Prop} {Pb : Value → Value → Led → Prop} {post : Value → Led → Prop} (ha : Ev C en l news a Pa) (hb : ∀ v n, Pa v n → Ev C en l n b (Pb v))
    (hc : ∀ v w n, Pb v w n → Som6 fun (r1 r2 : Addr) (vs ws : List Value) (c1 c2 : Nat) => Amd8 (v = .ref r1) (w = .ref r2) ((r1, tupO vs.toArray c1) ∈ n) ((r2, tupO ws.toArray c2) ∈ n) (vs ≠ []) (ws ≠ []) (vs.length + ws.length ≤ 16384) (∀ D, AllLt D n → post (.ref D) ((D, tupO (vs ++ ws).toArray 0) :: n))) : Ev C en l news (.BinOp a .Add b p) post :=
  fun E Q s F N q => wpAny_BinOp (ha E _ s F N fun v n h' tk F' N' pv => hb v n pv E _ _ F' N' fun w n h2 tk2 F2 N2 pw => by
    obtain ⟨r1, r2, vs, ws, c1, c2, e1, e2, m1, m2, z1, z2, hz, hp⟩ := hc v w n pw
    subst e1; subst e2
    exact kde_addT (its := vs.toArray) (its2 := ws.toArray) F2 N2 ⟨_, (N2 _ m1).1, rfl, c1, rfl⟩ ⟨_, (N2 _ m2).1, rfl, c2, rfl⟩ (by simpa using z1) (by simpa using z2) (by simpa using hz) rfl fun D h3 F3 N3 l3 => q _ _ h3 _ F3 (by simpa using N3) (hp D (allLt_of l3)))
/-- statements upon lists -/
theorem ex_append {pl : Sem Bool} {x : Str} {e : PySem.Expr} {p1 p2 p3 p4 : Pos} {r : Addr} {vs0 : List Value} {c0 : Nat} {P : Value → Led → Prop} {ss : List Stmt} {R : Value → Led → Prop} {N : Bnd → Led → Prop} (hx : EvV C C.env l news (.Name x p1) (.ref r)) (hm0 : (r, listOf vs0.toArray c0) ∈ news) (he : Ev C C.env l news e P)
    (k : ∀ v n, P v n → Som3 fun (keep : Led) (vs : List Value) (c : Nat) => Amd5 ((r, listOf vs.toArray c) ∈ n) ((∀ p ∈ keep, p ∈ n)) ((∀ p ∈ keep, p.1 ≠ r)) (vs.length ≤ 16384) (Ex C C.env l ((r, listOf (vs ++ [v]).toArray (c + 1)) :: keep) ss R N))
    (he1 : starEach [e] C.env = (false, eval e C.env) :: starEach [] C.env := by rfl)
    (hme : eval (.Call (.Attribute (.Name x p1) (Str.ofString "append") p2) [e] [] p3) C.env = (do
      let ov ← eval (.Name x p1) C.env
      standAt p2.atName
      let (f, first) ← holding [ov] (getMethod ov (Str.ofString "append") pl)
      callWith p3 f first (backTo p3 (starEach [e] C.env)) []) := by rfl)
    (hi : interactive C.env = false := by rfl) (hs : swapsWith (.Call (.Attribute (.Name x p1) (Str.ofString "append") p2) [e] [] p3) none p4.line C.env = pure false := by rfl) : Ex C C.env l news (.Expr (.Call (.Attribute (.Name x p1) (Str.ofString "append") p2) [e] [] p3) p4 :: ss) R N :=
  fun E Q s pe F Nw rr kn => wpAny_execs_cons (wpAny_Expr (MethodCall_ (hx E _ s F Nw fun v n h' tk F' N' ⟨e1, e2⟩ => by
    subst e1; subst e2
    refine getMethod_append_N N' hm0 (callWith_method1 (spliced_more (he E _ _ F' N' fun v n h2 tk2 F2 N2 pv => spliced_none ?_) he1) he1 rfl)
    obtain ⟨keep, vs, c, hm, hk, hR, hz, kk⟩ := k v n pv
    exact app_op keep F2 N2 hm hk hR hz fun h3 F3 N3 => kk E Q _ pe F3 N3 rr kn) hme) hi hs)
theorem ex_setItem {o i e : PySem.Expr} {p1 p2 : Pos} {r : Addr} {ob : Obj} {vs : List Value} {y : Int} {k : Int} {ss : List Stmt} {R : Value → Led → Prop} {N : Bnd → Led → Prop} (keep : Led) (he : EvI C C.env l news e y) (ho : EvV C C.env l news o (.ref r)) (hi : EvI C C.env l news i k) (hm : (r, ob) ∈ news) (hL : IsL ob vs) (h0 : 0 ≤ k) (hk : k < vs.length) (hk2 : k < 2 ^ 63)
    (hkeep : ∀ p ∈ keep, p ∈ news) (hR : ∀ p ∈ keep, p.1 ≠ r) (kk : ∀ ob' t, IsL ob' (vs.set k.toNat (.int y t)) → Ex C C.env l ((r, ob') :: keep) ss R N)
    (hs : swapsWith e (some (.Subscript o i p1)) p2.line C.env = pure false := by rfl) : Ex C C.env l news (.Assign [.Subscript o i p1] e p2 :: ss) R N :=
  fun E Q s pe F Nw rr kn => wpAny_execs_cons (wpAny_Assign_Subscript (he E _ s F Nw fun v n h' tk F' N' ⟨⟨t, e1⟩, e2⟩ => by
    subst e1; subst e2
    refine ho E _ _ F' N' fun v n h2 tk2 F2 N2 ⟨e3, e4⟩ => ?_
    subst e3; subst e4
    refine hi E _ _ F2 N2 fun v n h3 tk3 F3 N3 ⟨⟨u, e5⟩, e6⟩ => ?_
    subst e5; subst e6
    obtain ⟨hc, c, hd⟩ := hL
    have z := N3 _ hm
    refine wpAny_setItem_list ⟨ob, z.1, hc, c, hd⟩ h0 hk2 (by simpa using hk) fun h4 hl4 hs4 => ?_
    obtain ⟨ob', ho', hc', c', hd'⟩ := hl4
    refine kk ob' t ⟨hc', c', by rw [hd']; simp⟩ E Q _ pe (F3.change hs4 z.2.1 z.2.2) ?_ rr kn
    intro p hp
    rcases List.mem_cons.mp hp with rfl | hp
    · exact ⟨ho', z.2⟩
    · exact ⟨(hs4.2 p.1 (hR p hp)).trans (N3 p (hkeep p hp)).1, (N3 p (hkeep p hp)).2⟩) hs)
end

end Mine

end
section
set_option linter.unusedVariables false
open PySem PySem.W PyProof.Rows PySem.Calls
set_option Elab.async false
set_option maxRecDepth 100000
set_option maxHeartbeats 1000000
namespace Mine
theorem AllObj.of : ∀ {ws : List (Addr × String)} {k : Led → Prop}, (∀ its, Objs ws its → k its) → AllObj ws k
  | [], _, h => h [] True.intro
  | w :: r, k, h => fun o ho => AllObj.of fun its hi => h ((w.1, o) :: its) ⟨⟨rfl, ho⟩, hi⟩
theorem subL_of : ∀ {l all : Led}, (∀ p ∈ l, p ∈ all) → SubL l all
  | [], _, _ => True.intro
  | p :: r, all, h => ⟨h p (.head _), subL_of fun q hq => h q (.tail _ hq)⟩
def Apart (its n : Led) : Prop := ∀ p ∈ its, ∀ q ∈ n, q.1 ≠ p.1
theorem objs_addr : ∀ {ws : List (Addr × String)} {its : Led}, Objs ws its → (∀ p ∈ its, ∃ w ∈ ws, w.1 = p.1) ∧ (∀ w ∈ ws, ∃ p ∈ its, p.1 = w.1)
  | [], [], _ => ⟨fun _ h => (nomatch h), fun _ h => (nomatch h)⟩
  | [], _ :: _, h => (show False from h).elim
  | _ :: _, [], h => (show False from h).elim
  | w :: ws, p :: ps, h => by
    obtain ⟨h1, h2⟩ := objs_addr h.2
    refine ⟨fun q hq => ?_, fun q hq => ?_⟩
    · rcases List.mem_cons.mp hq with rfl | hq
      · exact ⟨w, .head _, h.1.1.symm⟩
      · obtain ⟨x, hx, e⟩ := h1 q hq
        exact ⟨x, .tail _ hx, e⟩
    · rcases List.mem_cons.mp hq with rfl | hq
      · exact ⟨p, .head _, h.1.1⟩
      · obtain ⟨x, hx, e⟩ := h2 q hq
        exact ⟨x, .tail _ hx, e⟩
section
variable {W : Wx} {room : Nat} {sc : Scope} {cl : List (Str × Addr)} {C : Cx W room sc cl} {en : Env} {l : Bnd} {news : Led}
/-- one turn of a loop: the item goes to the target, then the body -/
def Trn (C : Cx W room sc cl) (l : Bnd) (n : Led) (target : PySem.Expr) (a : Itm) (body : List Stmt) (R : Value → Led → Prop) (N : Bnd → Led → Prop) : Prop :=
  ∀ (v : Value) (E : Value → Shared → Prop) (Q : Flow → Shared → Prop) (s : Shared), PassesOwn (model PR W.w) C.A C.env E → a.Is v s.heap → Fr C.h₀ C.L s.heap (look l) → News C.h₀ C.L s.heap n →
    (∀ v l' news' h' tk', Fr C.h₀ C.L h' (look l') → News C.h₀ C.L h' news' → R v news' → Q (.ret v) { s with heap := h', toks := tk' }) →
    (∀ l' news' h' tk', Fr C.h₀ C.L h' (look l') → News C.h₀ C.L h' news' → N l' news' → Q .next { s with heap := h', toks := tk' }) →
    wpAny (model PR W.w) C.A (assign target C.env v) (fun _ s₂ => wpAny (model PR W.w) C.A (execs body C.env) Q E s₂) E s
/-- where a loop's items come from -/
def Itr (C : Cx W room sc cl) (l : Bnd) (news : Led) (iter : PySem.Expr) (target : PySem.Expr) (xs : List Itm) (K : Led) : Prop :=
  ∀ (body : List Stmt) (E : Value → Shared → Prop) (Q : Flow → Shared → Prop) (s : Shared), Fr C.h₀ C.L s.heap (look l) → News C.h₀ C.L s.heap news →
    (∀ ext ws keep h tk, Abv news ext → (∀ p ∈ keep, p ∈ ext ++ K) → (∀ p ∈ ext ++ news, ∀ w ∈ ws, p.1 ≠ (w : Addr × String).1) → ItemsRest PR W.w C.A E C.h₀ C.env target body Q { s with heap := h, toks := tk } ws keep xs (look l) (ext ++ news)) →
    wpAny (model PR W.w) C.A (eval iter C.env) (fun xv s₁ => wpAny (model PR W.w) C.A (pyIter xv) (fun it s₂ => TurnsAt PR W.w C.A C.h₀ C.env target body Q E it s₂) E s₁) E s
/-- what stands behind a turn -/
def Turned (its : Led) (J : Bnd → Led → Prop) (l : Bnd) (m : Led) : Prop := ∃ n', Amd4 ((∀ p ∈ its, p ∈ m)) ((∀ p ∈ n', p ∈ m)) (Apart its n') (J l n')
theorem ex_for {target iter : PySem.Expr} {body : List Stmt} {p : Pos} {ss : List Stmt} {R : Value → Led → Prop} {N : Bnd → Led → Prop} (xs : List Itm) (K : Led) (J : Led → Nat → Bnd → Led → Prop) (hI : Itr C l news iter target xs K)
    (h0 : ∀ ext, Abv news ext → J ext 0 l (ext ++ news)) (hK : ∀ ext i l' n, J ext i l' n → ∀ p ∈ ext ++ K, p ∈ n)
    (turn : ∀ ext i a l' n its, xs[i]? = some a → J ext i l' n → Apart its n → Trn C l' (its ++ n) target a body R (Turned its (J ext (i + 1))))
    (fin : ∀ ext l' n, J ext xs.length l' n → Ex C C.env l' n ss R N)
    (hs : ∀ x, foldedSetIterable iter C.env x = pure x := by intro _; rfl) : Ex C C.env l news (.For target iter body [] p :: ss) R N :=
  fun E Q s pe F Nw rr kn => by
    refine wpAny_execs_cons (For_turns F (hI body E _ s F Nw ?_) hs pe)
    intro ext ws keep h tk hab hkeep hoff
    have key : ∀ (k i : Nat) (l' : Bnd) (n : Led), i + k = xs.length → J ext i l' n → (∀ p ∈ n, ∀ w ∈ ws, p.1 ≠ w.1) →
        ItemsRest PR W.w C.A E C.h₀ C.env target body (fun f s' => match f with | .next => wpAny (model PR W.w) C.A (execs ss C.env) Q E s' | f => Q f s') { s with heap := h, toks := tk } ws keep (xs.drop i) (look l') n := by
      intro k
      induction k with
      | zero =>
        intro i l' n hi hj ho
        rw [List.drop_eq_nil_of_le (by omega)]
        refine ItemsRest.zero fun h' tk' F' N' => ?_
        have e : i = xs.length := by omega
        subst e
        exact fin ext l' n hj E Q _ pe F' N' rr kn
      | succ k ih =>
        intro i l' n hi hj ho
        have hlt : i < xs.length := by omega
        rw [List.drop_eq_getElem_cons hlt]
        intro v h' tk' hav F'
        refine AllObj.of fun its hits N' => ?_
        obtain ⟨ha1, ha2⟩ := objs_addr hits
        have hap : Apart its n := fun p hp q hq => by
          obtain ⟨w, hw, e⟩ := ha1 p hp
          exact e ▸ ho q hq w hw
        refine turn ext i _ l' n its (List.getElem?_eq_getElem hlt) hj hap v E _ _ pe hav F' N' (fun v l'' n'' h3 tk3 F3 N3 hr => rr v l'' n'' h3 tk3 F3 N3 hr) ?_
        rintro l'' m h3 tk3 F3 N3 ⟨n', hm1, hm2, hap', hj'⟩
        refine ⟨h3, tk3, look l'', n', rfl, F3, ?_, fun p hp q hq => hap' q hq p hp, subL_of fun p hp => hK ext _ _ _ hj' p (hkeep p hp), ih (i + 1) l'' n' (by omega) hj' fun p hp w hw => ?_⟩
        · intro p hp
          rcases List.mem_append.mp hp with hp | hp
          · exact N3 p (hm1 p hp)
          · exact N3 p (hm2 p hp)
        · obtain ⟨q, hq, e⟩ := ha2 w hw
          exact e ▸ hap' q hq p hp
    have := key xs.length 0 l (ext ++ news) (by omega) (h0 ext hab) hoff
    rwa [List.drop_zero] at this
/-- sources -/
theorem itr_list {iter target : PySem.Expr} {r : Addr} {o : Obj} {vs : List Value} {K : Led} (hi : EvV C C.env l news iter (.ref r)) (hm : (r, o) ∈ news) (hK : (r, o) ∈ K) (hL : IsL o vs) : Itr C l news iter target (vs.map .val) K :=
  fun body E Q s F N k => hi E _ s F N fun v n h' tk F' N' ⟨e1, e2⟩ => by
    subst e1; subst e2
    obtain ⟨hc, c, hd⟩ := hL
    refine iter_listTurns (s := { s with heap := h', toks := tk }) rfl F' N' hm hc hd fun I hI => ?_
    exact k [] _ [(r, o)] h' tk Abv.nil (fun p hp => by rw [List.mem_singleton.mp hp]; exact hK) (fun p hp w hw => by rw [List.mem_singleton.mp hw]; exact Nat.ne_of_lt (hI p hp))
noncomputable def rngItems (a : Int) (n : Nat) : List Itm := (List.range n).map fun (i : Nat) => Itm.tok fun t => .int (a + (i : Int)) t
theorem letGo_rangeiter {prog : Program} {w : World} {A : Around} {E : Value → Shared → Prop} {target : PySem.Expr} {I : Addr} {a b c : Int} {v : Value} {Q' : Unit → Shared → Prop} {s' : Shared} (hit : IsRangeIter s'.heap I a b c) (h : Q' () s') :
    wpAny (model prog w) A (letOwnedTupleGo target (.ref I) v) Q' E s' := by
  have ho : s'.heap.get? I = some _ := hit
  unfold letOwnedTupleGo
  cases target <;> first
    | exact wpAny_pure h
    | (cases v <;> first
        | exact wpAny_pure h
        | (refine wpAny_bind (wpAny_load ho ?_)
           exact wpAny_pure h))
theorem itr_range {iter target : PySem.Expr} {a b : Int} {nn : Nat} {K : Led} (hi : Ev C C.env l news iter (Rng a b fun n => n = news)) (hb : b = a + nn) (ha1 : -1000 ≤ a) (ha2 : a ≤ 1000) (hn : nn ≤ 16384) : Itr C l news iter target (rngItems a nn) K :=
  fun body E Q s F N k => hi E _ s F N fun v n h' tk F' N' ⟨D, t, u, w, n0, e1, e2, ll, e3⟩ => by
    subst e1; subst e2; subst e3
    have hz : (b - a).toNat = nn := by omega
    have hD := N' (D, rngO a b t u w) (.head _)
    have hr : IsRange h' D a b 1 t u w := hD.1
    have hh : C.A.handled = none := rfl
    have hsz : Builtin.Range.rangeSize a b 1 = (nn : Int) := by rw [rangeSize_nat, hz]
    refine wpAny_pyIter_range (s := { s with heap := h', toks := tk }) hr (small_one (by omega) (by omega) (by omega) (by omega)) ?_
    have N2 : News C.h₀ C.L h' n0 := cb_drop N' fun p hp => .tail _ hp
    have hlt : ∀ p ∈ n0, p.1 < h'.objs.size := fun p hp => Heap.lt_size (N2 p hp).1
    refine ktu_core (s := { s with heap := h', toks := tk }) (tk0 := tk) (keep := []) (ws := [(h'.objs.size, "range_iterator")]) (xs := rngItems a nn) (news := n0) (KTurns.ofWalks (Walks.range hh h'.objs.size a 1 nn).bound fun i v s Q E st q => letGo_rangeiter st q) (by simp [rngItems]) ?_ ?_ ?_ ?_ ?_ ?_ ?_ ?_ (F'.push _) (N2.grown fun _ _ e => Heap.get?_push_of_some _ e) True.intro (k [] _ [] h' tk Abv.nil (fun _ h => nomatch h) (fun p hp w hw => by rw [List.mem_singleton.mp hw]; exact Nat.ne_of_lt (hlt p hp)))
    · rintro i v h ⟨hlt, t, rfl⟩
      exact ⟨Itm.tok fun t => .int (a + (i : Int)) t, by simp [rngItems, hlt], t, by rw [Int.mul_one]⟩
    · intro i h st
      exact ⟨[(h'.objs.size, _)], ⟨⟨rfl, rfl⟩, True.intro⟩, fun p hp => by rw [List.mem_singleton.mp hp]; exact st⟩
    · intro b hb
      have hb' : b = h'.objs.size := by simpa using hb
      rw [hb']
      exact ⟨List.mem_cons_self .., next_is_new F'⟩
    · intro b hb
      simpa using hb
    · intro b hb
      have hb' : b = h'.objs.size := by simpa using hb
      exact .inl (by simp [hb'])
    · intro hI
      have : C.L = h'.objs.size := (by simpa using hI : C.env.locals = h'.objs.size)
      exact absurd F'.ns.lt (this ▸ Nat.lt_irrefl _)
    · intro p hp hI
      exact absurd (hlt p hp) ((List.mem_singleton.mp hI) ▸ Nat.lt_irrefl _)
    · show IsRangeIter _ _ _ _ _
      rw [hsz]
      simpa using Heap.get?_push_size _ rfl
end

end Mine

end
section
set_option linter.unusedVariables false
open PySem PySem.W PyProof.Rows PySem.Calls
set_option Elab.async false
set_option maxRecDepth 100000
set_option maxHeartbeats 1000000
namespace Mine
section
variable {prog : Program} {w : World} {A : Around} {h₀ : Heap} {L : Addr} {m : Str → Option Value} {env : Env} {elt : PySem.Expr} {x : Str} {scope : Scope} {cl : List (Str × Addr)} {s : Shared} {S : List (Addr × Obj) → Prop} {P : Nat → Value → Prop} {Fin : List Value → List (Addr × Obj) → Prop} {news : List (Addr × Obj)}
open LCg
theorem comp_inv {n : Nat} (Inv : Nat → List Value → List (Addr × Obj) → Prop) (h0 : Inv 0 [] news)
    (turn : ∀ i v ys nx I oI C oC D m₂ h tk (E' : Value → Shared → Prop), i < n → P i v → Inv i ys nx → NsObj oC m₂ → m₂ x = some v → Fr h₀ L h m → News h₀ L h ((I, oI) :: (C, oC) :: (D, lst ys) :: nx) → Off3 I C D nx →
      wpAny (model prog w) A (eval elt (compEnvC scope cl C env)) (CompEnd h₀ L m { s with heap := h, toks := tk } I oI C oC D (lst ys) S (fun y news' => Inv (i + 1) (ys ++ [y]) news')) E' { s with heap := h, toks := tk })
    (fin : ∀ ys nx, Inv n ys nx → Fin ys nx) : CompRest prog w A h₀ L m env elt x scope cl s S P Fin n 0 [] news := by
  have key : ∀ (j i : Nat) (ys : List Value) (nx : List (Addr × Obj)), i + j = n → Inv i ys nx → CompRest prog w A h₀ L m env elt x scope cl s S P Fin j i ys nx := by
    intro j
    induction j with
    | zero =>
      intro i ys nx hi hy
      have e : i = n := by omega
      subst e
      exact CompRest.zero (fin ys nx hy)
    | succ j ih =>
      intro i ys nx hi hy
      refine CompRest.succ ?_
      intro v I oI C oC D m₂ h tk E' hv hC hx F N off ne
      refine wpAny_mono (turn i v ys nx I oI C oC D m₂ h tk E' (by omega) hv hy hC hx F N off) (fun y s₂ hq => ?_) fun _ _ e => e
      obtain ⟨h', tk', nw, e, F', N', off', hS, hr⟩ := hq
      exact ⟨h', tk', nw, e, F', N', off', hS, ih (i + 1) _ _ (by omega) hr⟩
  exact key n 0 [] news (by omega) h0
theorem comp_range {r : Addr} {b : Int} {t u v : Tok} {Q : Value → Shared → Prop} (n : Nat) (hh : A.handled = none) (F : Fr h₀ L s.heap m) (N : News h₀ L s.heap news) (hr : IsRange s.heap r 0 b 1 t u v) (hb : b = (n : Int)) (hn : n ≤ 16384)
    (Inv : Nat → List Value → List (Addr × Obj) → Prop) (h0 : Inv 0 [] news)
    (turn : ∀ i t ys nx I oI C oC D m₂ h tk (E' : Value → Shared → Prop), i < n → Inv i ys nx → NsObj oC m₂ → m₂ x = some (.int (i : Int) t) → Fr h₀ L h m → News h₀ L h ((I, oI) :: (C, oC) :: (D, lst ys) :: nx) → Off3 I C D nx →
      wpAny (model prog w) A (eval elt (compEnvC scope cl C env)) (CompEnd h₀ L m { s with heap := h, toks := tk } I oI C oC D (lst ys) (fun _ => True) (fun y news' => Inv (i + 1) (ys ++ [y]) news')) E' { s with heap := h, toks := tk })
    (fin : ∀ ys nx D h tk, Inv n ys nx → Fr h₀ L h m → News h₀ L h ((D, lst ys) :: nx) → Off1 D nx → Q (.ref D) { s with heap := h, toks := tk }) :
    CompSrc prog w A h₀ L m env elt x scope cl (fun s₂ => FinE h₀ L m s₂ Q) (.ref r) s := by
  refine CompSrc.range (n := n) hh F N hr (small_one (by decide) (by decide) (by omega) (by omega)) (by rw [rangeSize_nat]; omega) (by rw [sizeLine_eq]; omega) fun g => ?_
  refine comp_inv Inv h0 ?_ ?_
  · rintro i v ys nx I oI C oC D m₂ h tk E' hi ⟨t, rfl⟩ hI hC hx F' N' off
    rw [Int.zero_add] at hx
    exact turn i t ys nx I oI C oC D m₂ h tk E' hi hI hC hx F' N' off
  · intro ys nx hI D h tk F' N' off
    exact fin ys nx D h tk hI F' N' off
end
section
variable {W : Wx} {room : Nat} {sc : Scope} {cl : List (Str × Addr)} {C : Cx W room sc cl} {en : Env} {l : Bnd} {news : Led}
/-- targets -/
theorem trn_val {n : Led} {x : Str} {p1 : Pos} {v : Value} {body : List Stmt} {R : Value → Led → Prop} {N : Bnd → Led → Prop} (hx : (envX C.cn sc C.L C.fa C.ccd cl).kindOf x = some .local) (h : Ex C C.env ((x, v) :: l) n body R N) : Trn C l n (.Name x p1) (.val v) body R N :=
  fun u E Q s pe hu F Nw r k => by
    have e : u = v := hu
    subst e
    exact wpAny_assign_Name (st_op F Nw hx fun h' F' N' => h E Q _ pe F' N' r k)
theorem trn_tok {n : Led} {x : Str} {p1 : Pos} {f : Tok → Value} {body : List Stmt} {R : Value → Led → Prop} {N : Bnd → Led → Prop} (hx : (envX C.cn sc C.L C.fa C.ccd cl).kindOf x = some .local) (h : ∀ t, Ex C C.env ((x, f t) :: l) n body R N) : Trn C l n (.Name x p1) (.tok f) body R N :=
  fun u E Q s pe hu F Nw r k => by
    obtain ⟨t, e⟩ := hu
    subst e
    exact wpAny_assign_Name (st_op F Nw hx fun h' F' N' => h t E Q _ pe F' N' r k)
theorem trn_two {n : Led} {x y : Str} {p1 p2 p3 : Pos} {k0 : Nat} {T : Addr} {v1 v2 : Value} {body : List Stmt} {E : Value → Shared → Prop} {Q : Flow → Shared → Prop} {s : Shared} {R : Value → Led → Prop} {N : Bnd → Led → Prop} (hx : (envX C.cn sc C.L C.fa C.ccd cl).kindOf x = some .local) (hy : (envX C.cn sc C.L C.fa C.ccd cl).kindOf y = some .local)
    (h : Ex C C.env ((y, v2) :: (x, v1) :: l) n body R N) (pe : PassesOwn (model PR W.w) C.A C.env E) (ht : IsTup s.heap T #[v1, v2]) (F : Fr C.h₀ C.L s.heap (look l)) (Nw : News C.h₀ C.L s.heap n)
    (r : ∀ v l' news' h' tk', Fr C.h₀ C.L h' (look l') → News C.h₀ C.L h' news' → R v news' → Q (.ret v) { s with heap := h', toks := tk' }) (k : ∀ l' news' h' tk', Fr C.h₀ C.L h' (look l') → News C.h₀ C.L h' news' → N l' news' → Q .next { s with heap := h', toks := tk' }) :
    wpAny (model PR W.w) C.A (assign (.Tuple [.Name x p1, .Name y p2] k0 p3) C.env (.ref T)) (fun _ s₂ => wpAny (model PR W.w) C.A (execs body C.env) Q E s₂) E s := by
  refine unpackN_ F Nw ht rfl rfl rfl fun h' F' N' => ?_
  refine assignInOrder_cons (PyProof.Rows.assign_Name (st_op F' N' hx fun h2 F2 N2 => ?_))
  refine assignInOrder_cons (PyProof.Rows.assign_Name (st_op F2 N2 hy fun h3 F3 N3 => ?_))
  exact assignInOrder_nil (h E Q _ pe F3 N3 r k)
theorem trn_pair {n : Led} {x y : Str} {p1 p2 p3 : Pos} {k0 : Nat} {T : Addr} {v1 v2 : Value} {c : Nat} {body : List Stmt} {R : Value → Led → Prop} {N : Bnd → Led → Prop} (hx : (envX C.cn sc C.L C.fa C.ccd cl).kindOf x = some .local) (hy : (envX C.cn sc C.L C.fa C.ccd cl).kindOf y = some .local) (hm : (T, tupO #[v1, v2] c) ∈ n)
    (h : Ex C C.env ((y, v2) :: (x, v1) :: l) n body R N) : Trn C l n (.Tuple [.Name x p1, .Name y p2] k0 p3) (.val (.ref T)) body R N :=
  fun u E Q s pe hu F Nw r k => by
    have e : u = .ref T := hu
    subst e
    exact trn_two hx hy h pe ⟨_, (Nw _ hm).1, rfl, c, rfl⟩ F Nw r k
theorem trn_zip {n : Led} {x y : Str} {p1 p2 p3 : Pos} {k0 : Nat} {f : Tok → Value} {v2 : Value} {body : List Stmt} {R : Value → Led → Prop} {N : Bnd → Led → Prop} (hx : (envX C.cn sc C.L C.fa C.ccd cl).kindOf x = some .local) (hy : (envX C.cn sc C.L C.fa C.ccd cl).kindOf y = some .local)
    (h : ∀ t, Ex C C.env ((y, v2) :: (x, f t) :: l) n body R N) : Trn C l n (.Tuple [.Name x p1, .Name y p2] k0 p3) (.pair f v2) body R N :=
  fun u E Q s pe hu F Nw r k => by
    obtain ⟨T, t, e, ht⟩ := hu
    subst e
    exact trn_two hx hy (h t) pe ht F Nw r k
/-- inside a comprehension -/
theorem ev_own {scope : Scope} {clo : List (Str × Addr)} {Cc : Addr} {oC : Obj} {m₂ : Str → Option Value} {x : Str} {p : Pos} {v : Value} (hm : (Cc, oC) ∈ news) (hC : LCg.NsObj oC m₂) (hv : m₂ x = some v) (hk : (compEnvC scope clo Cc C.env).scope.kind = .function := by rfl) (hl : (compEnvC scope clo Cc C.env).kindOf x = some .local := by rfl) (hd : (x == ("__debug__" : Str)) = false := by decide) : EvV C (compEnvC scope clo Cc C.env) l news (.Name x p) v :=
  fun E Q s F N q => LCgL.ld_own N hm hC hv (q v news s.heap s.toks F N ⟨rfl, rfl⟩) hk hl hd
theorem ev_fnC {scope : Scope} {clo : List (Str × Addr)} {Cc : Addr} {x : Str} {p : Pos} {v : Value} (e : nsIn (hd.heap_39 W.w.params) mainGlobals x = some (some v)) (hk : (compEnvC scope clo Cc C.env).scope.kind = .function := by rfl) (hl : (compEnvC scope clo Cc C.env).kindOf x = some .globalImplicit := by rfl) (hd : (x == ("__debug__" : Str)) = false := by decide) : EvV C (compEnvC scope clo Cc C.env) l news (.Name x p) v :=
  fun E Q s F N q => LCgL.ld_global F C.X C.T e (q v news s.heap s.toks F N ⟨rfl, rfl⟩) rfl hk hl hd
theorem ev_cellC {scope : Scope} {clo : List (Str × Addr)} {Cc c : Addr} {o : Obj} {x : Str} {p : Pos} {v : Value} (hc : clo.lookup x = some c) (hm : (c, o) ∈ news) (ho : o.data = .cell (some v)) (hk : (compEnvC scope clo Cc C.env).scope.kind = .function := by rfl) (hl : (compEnvC scope clo Cc C.env).kindOf x = some .cell := by rfl) (hd : (x == ("__debug__" : Str)) = false := by decide) : EvV C (compEnvC scope clo Cc C.env) l news (.Name x p) v :=
  fun E Q s F N q => lcf_cell N hc hm ho (q v news s.heap s.toks F N ⟨rfl, rfl⟩) hk hl hd
/-- what an element's evaluation must leave -/
def Elt (I : Addr) (oI : Obj) (Cc : Addr) (oC : Obj) (D : Addr) (ys : List Value) (Inv : List Value → Led → Prop) (y : Value) (m : Led) : Prop :=
  ∃ nx', Amd3 ((∀ p ∈ (I, oI) :: (Cc, oC) :: (D, LCg.lst ys) :: nx', p ∈ m)) (LCg.Off3 I Cc D nx') (Inv (ys ++ [y]) nx')
theorem elt_gr {I : Addr} {oI : Obj} {Cc : Addr} {oC : Obj} {D : Addr} {ys : List Value} {Inv : List Value → Led → Prop} {y : Value} {nx tl : Led} (off : LCg.Off3 I Cc D nx) (ab : Abv ((I, oI) :: (Cc, oC) :: (D, LCg.lst ys) :: nx) tl) (h : Inv (ys ++ [y]) (tl ++ nx)) : Elt I oI Cc oC D ys Inv y (tl ++ ((I, oI) :: (Cc, oC) :: (D, LCg.lst ys) :: nx)) := by
  refine ⟨tl ++ nx, fun p hp => ?_, LCg.Off3.of fun p hp => ?_, h⟩
  · simp only [List.mem_cons, List.mem_append] at hp ⊢
    rcases hp with h | h | h | h | h <;> simp [h]
  · rcases List.mem_append.mp hp with hp | hp
    · exact ⟨Nat.ne_of_gt (ab p hp _ (.head _)), Nat.ne_of_gt (ab p hp _ (.tail _ (.head _))), Nat.ne_of_gt (ab p hp _ (.tail _ (.tail _ (.head _))))⟩
    · exact off.mem p hp
theorem elt_pure {I : Addr} {oI : Obj} {Cc : Addr} {oC : Obj} {D : Addr} {ys : List Value} {Inv : List Value → Led → Prop} {y : Value} {nx : Led} (off : LCg.Off3 I Cc D nx) (h : Inv (ys ++ [y]) nx) : Elt I oI Cc oC D ys Inv y ((I, oI) :: (Cc, oC) :: (D, LCg.lst ys) :: nx) := ⟨nx, fun _ hp => hp, off, h⟩
theorem ev_compR {elt iter : PySem.Expr} {x : Str} {px pos : Pos} {scope : Scope} {clo : List (Str × Addr)} {n : Nat} {P0 : Led → Prop} {post : Value → Led → Prop} (Inv : Nat → List Value → Led → Prop) (hit : Ev C C.env l news iter (Rng 0 (n : Int) P0)) (hn : n ≤ 16384) (h0 : ∀ n0, P0 n0 → Inv 0 [] n0)
    (turn : ∀ i t ys nx I oI Cc oC D m₂, i < n → Inv i ys nx → LCg.NsObj oC m₂ → m₂ x = some (.int (i : Int) t) → LCg.Off3 I Cc D nx → Ev C (compEnvC scope clo Cc C.env) l ((I, oI) :: (Cc, oC) :: (D, LCg.lst ys) :: nx) elt (Elt I oI Cc oC D ys (Inv (i + 1))))
    (fin : ∀ D ys nx, Inv n ys nx → LCg.Off1 D nx → post (.ref D) ((D, listOf ys.toArray ys.length) :: nx))
    (hclos : closureFor scope C.env = pure clo := by rfl) (hcell : ∀ y ∈ scope.names, y.2 ≠ .cell := by decide) (hkind : scope.kind = .function := by rfl) (hnames : ∀ y ∈ scope.names, y.2 = .local → scope.names.lookup y.1 = some .local := by decide) (hx : scope.names.lookup x = some .local := by rfl)
    (hs : ∀ x, foldedSetIterable iter C.env x = pure x := by intro _; rfl) : Ev C C.env l news (.ListComp elt [⟨.Name x px, iter, [], 0⟩] scope pos) post :=
  fun E Q s F N q => LCg.ListComp_U F hclos hcell hkind hnames hx (hit E _ s F N fun v n1 h' tk F' N' ⟨D, t, u, w, n0, e1, e2, ll, p0⟩ => by
    subst e1; subst e2
    refine comp_range (s := { s with heap := h', toks := tk }) n rfl F' (cb_drop N' fun p hp => .tail _ hp) (N' _ (.head _)).1 rfl hn Inv (h0 _ p0) ?_ ?_
    · intro i t ys nx I oI Cc oC D m₂ h tk E' hi hI hC hv F1 N1 off
      refine turn i t ys nx I oI Cc oC D m₂ hi hI hC hv off E' _ { s with heap := h, toks := tk } F1 N1 ?_
      rintro y m h2 tk2 F2 N2 ⟨nx', hsub, off', hI'⟩
      exact LCg.CompEnd.intro F2 N2 nx' hsub off' True.intro hI'
    · intro ys nx D h tk hI F1 N1 off
      exact q _ _ _ _ F1 N1 (fin D ys nx hI off)) hs
theorem ev_compL {elt iter : PySem.Expr} {x : Str} {px pos : Pos} {scope : Scope} {clo : List (Str × Addr)} {vs : List Value} {P0 : Addr → Nat → Led → Prop} {post : Value → Led → Prop} (Inv : Addr → Nat → Nat → List Value → Led → Prop) (hit : Ev C C.env l news iter (fun v n => Som2 fun ax c => Amd3 (v = .ref ax) ((ax, listOf vs.toArray c) ∈ n) (P0 ax c n))) (hn : vs.length ≤ 16384) (h0 : ∀ ax c n0, P0 ax c n0 → Inv ax c 0 [] n0)
    (hsrc : ∀ ax c i ys nx, Inv ax c i ys nx → (ax, listOf vs.toArray c) ∈ nx)
    (turn : ∀ ax c i v ys nx I oI Cc oC D m₂, vs[i]? = some v → Inv ax c i ys nx → LCg.NsObj oC m₂ → m₂ x = some v → LCg.Off3 I Cc D nx → Ev C (compEnvC scope clo Cc C.env) l ((I, oI) :: (Cc, oC) :: (D, LCg.lst ys) :: nx) elt (Elt I oI Cc oC D ys (Inv ax c (i + 1))))
    (fin : ∀ ax c D ys nx, Inv ax c vs.length ys nx → LCg.Off1 D nx → post (.ref D) ((D, listOf ys.toArray ys.length) :: nx))
    (hclos : closureFor scope C.env = pure clo := by rfl) (hcell : ∀ y ∈ scope.names, y.2 ≠ .cell := by decide) (hkind : scope.kind = .function := by rfl) (hnames : ∀ y ∈ scope.names, y.2 = .local → scope.names.lookup y.1 = some .local := by decide) (hx : scope.names.lookup x = some .local := by rfl)
    (hs : ∀ x, foldedSetIterable iter C.env x = pure x := by intro _; rfl) : Ev C C.env l news (.ListComp elt [⟨.Name x px, iter, [], 0⟩] scope pos) post :=
  fun E Q s F N q => LCg.ListComp_U F hclos hcell hkind hnames hx (hit E _ s F N fun v n1 h' tk F' N' ⟨ax, c, e1, hm, p0⟩ => by
    subst e1
    refine LCg.CompSrc.ledger (s₁ := { s with heap := h', toks := tk }) (its := vs.toArray) rfl F' N' hm (by rw [sizeLine_eq]; simp; omega) fun g => ?_
    have hsz : vs.toArray.size = vs.length := rfl
    rw [hsz]
    refine comp_inv (Inv ax c) (h0 ax c _ p0) ?_ ?_
    · intro i v ys nx I oI Cc oC D m₂ h tk E' hi hP hI hC hv F1 N1 off
      refine turn ax c i v ys nx I oI Cc oC D m₂ (by simpa using hP) hI hC hv off E' _ { s with heap := h, toks := tk } F1 N1 ?_
      rintro y m h2 tk2 F2 N2 ⟨nx', hsub, off', hI'⟩
      exact LCg.CompEnd.intro F2 N2 nx' hsub off' (.inr ⟨_, hsrc _ _ _ _ _ hI', rfl, c, rfl⟩) hI'
    · intro ys nx hI D h tk F1 N1 off
      exact q _ _ _ _ F1 N1 (fin ax c D ys nx hI off)) hs
end

end Mine

end
section
set_option linter.unusedVariables false
open PySem PySem.W PyProof.Rows PySem.Calls
set_option Elab.async false
set_option maxRecDepth 100000
set_option maxHeartbeats 1000000
namespace Mine
theorem ne_pos {x : Int} (h : 0 < x) : x ≠ 0 := fun e => absurd (e ▸ h) (by decide)
theorem cmp_eq0 {x : Int} (h : 0 < x) : cmpI .Eq x 0 = some false := congrArg some (beq_eq_false_iff_ne.mpr (ne_pos h))
theorem cmp_lt0 {x : Int} (h : 0 < x) : cmpI .Lt x 0 = some false := congrArg some (decide_eq_false (Int.not_lt.mpr (Int.le_of_lt h)))
theorem cd_state {f s : Int} {g : Nat} (h1 : 0 ≤ f) (h3 : 0 < s) (h4 : Int.gcd f s = g) : 0 ≤ s ∧ 0 ≤ f.fmod s ∧ Int.gcd s (f.fmod s) = g := by
  refine ⟨Int.le_of_lt h3, Int.fmod_nonneg_of_pos _ h3, ?_⟩
  rw [Int.fmod_eq_emod_of_nonneg _ (Int.le_of_lt h3), ← h4, Int.gcd_comm s]
  have := Int.gcd_sub_mul_right_left (m := s) (n := f) (k := f / s)
  rw [← this]
  congr 1
  have := Int.mul_ediv_add_emod f s
  have h5 := Int.mul_comm s (f / s)
  omega
theorem cd_meas {f s : Int} (h3 : 0 < s) : (f.fmod s).toNat < s.toNat := by
  have := Int.fmod_lt_of_pos f h3
  have := Int.fmod_nonneg_of_pos f h3
  omega
theorem cd_end {f s one other : Int} (h1 : 0 ≤ f) (h2 : 0 ≤ s) (h3 : ¬ 0 < s) (h4 : Int.gcd f s = Int.gcd (if one < 0 then -one else one) other) : f = Int.gcd one other := by
  have : s = 0 := by omega
  subst this
  rw [Int.gcd_zero_right] at h4
  have e : Int.gcd (if one < 0 then -one else one) other = Int.gcd one other := by
    split
    · exact Int.neg_gcd
    · rfl
  omega
theorem cd_con (W : Wx) (news) (one other : Int) (t1 t2 : Tok) (h0 : 0 ≤ other) : Con W.w W.mean W.mg W.mb 2 72 news [.int one t1, .int other t2] (fun r n => n = news ∧ ∃ t, r = .int (Int.gcd one other) t) := by
  refine' con_of [(Str.ofString "one", .int one t1), (Str.ofString "other", .int other t2)] (l := [(Str.ofString "other", .int other t2), (Str.ofString "one", .int one t1)]) ?ho ?hcd ?hbind ?hloc ?h1 ?h2 ?h3 ?h4 rfl ?_
  case ho => k_is
  case hcd => k_is
  case hbind => exact rfl
  case hloc => exact rfl
  case h1 => exact rfl
  case h2 => exact rfl
  case h3 => exact rfl
  case h4 => decide
  intro C
  refine ex_set2s (ev_tuple (P := fun vs n => (∃ u, vs = [.int (if one < 0 then -one else one) u, .int other t2]) ∧ n = news) (post := fun v n => Som2 fun D u => v = .ref D ∧ n = (D, tupO #[.int (if one < 0 then -one else one) u, .int other t2] 0) :: news) (evs_cons (evI_abs (ev_bi (bi_abs W).1 (bi_abs W).2 (by decide) rfl rfl) (evI_of (ev_local rfl rfl rfl))) ?_) ?_) rfl rfl rfl rfl ?_
  · rintro v n ⟨⟨u, rfl⟩, rfl⟩
    refine (evsV_cons (ev_local rfl rfl rfl) evsV_nil).mono ?_
    rintro vs n ⟨rfl, rfl⟩
    exact ⟨⟨u, rfl⟩, rfl⟩
  · rintro vs n D ⟨⟨u, rfl⟩, rfl⟩ hD
    exact ⟨by simp, D, u, rfl, rfl⟩
  rintro v n ⟨D, u, rfl, rfl⟩
  refine ⟨D, 0, _, _, rfl, .head _, Ex.sub (news' := news) ?_ fun p hp => .tail _ hp⟩
  refine ex_while (fun k l' n => n = news ∧ Som4 fun f s u1 u2 => Amd6 (look l' (Str.ofString "first") = some (.int f u1)) (look l' (Str.ofString "second") = some (.int s u2)) (0 ≤ f) (0 ≤ s) (Int.gcd f s = Int.gcd (if one < 0 then -one else one) other) (k = s.toNat))
    (fun k l' c n => n = news ∧ Som4 fun f s u1 u2 => Amd7 (look l' (Str.ofString "first") = some (.int f u1)) (look l' (Str.ofString "second") = some (.int s u2)) (0 ≤ f) (0 ≤ s) (Int.gcd f s = Int.gcd (if one < 0 then -one else one) other) (k = s.toNat) (c = decide (0 < s))) other.toNat ⟨rfl, _, _, _, _, rfl, rfl, by split <;> omega, h0, rfl, rfl⟩ ?_ ?_ ?_
  · rintro k l' n ⟨rfl, f, s, u1, u2, a1, a2, a3, a4, a5, a6⟩
    refine (tst_int (evI_of (ev_local a2 rfl rfl)) evI_const rfl rfl).mono ?_
    rintro c n ⟨rfl, rfl⟩
    exact ⟨rfl, f, s, u1, u2, a1, a2, a3, a4, a5, a6, rfl⟩
  · rintro k l' n ⟨rfl, f, s, u1, u2, a1, a2, a3, a4, a5, a6, a7⟩
    have hs : 0 < s := by simpa using a7.symm
    obtain ⟨b1, b2, b3⟩ := cd_state a3 hs a5
    refine ex_set2s (ev_tuple (P := fun vs n' => (∃ u, vs = [.int s u2, .int (f.fmod s) u]) ∧ n' = n) (post := fun v n' => Som2 fun D u => v = .ref D ∧ n' = (D, tupO #[.int s u2, .int (f.fmod s) u] 0) :: n) (evs_cons (ev_local a2 rfl rfl) ?_) ?_) rfl rfl rfl rfl ?_
    · rintro v n ⟨rfl, rfl⟩
      refine evs_cons (evI_mod (evI_of (ev_local a1 rfl rfl)) (evI_of (ev_local a2 rfl rfl)) (ne_pos hs)) ?_
      rintro v n ⟨⟨u, rfl⟩, rfl⟩
      refine evs_nil.mono ?_
      rintro vs n ⟨rfl, rfl⟩
      exact ⟨⟨u, rfl⟩, rfl⟩
    · rintro vs n' D ⟨⟨u, rfl⟩, rfl⟩ hD
      exact ⟨by simp, D, u, rfl, rfl⟩
    rintro v n' ⟨D, u, rfl, rfl⟩
    refine ⟨D, 0, _, _, rfl, .head _, Ex.sub (news' := n) (ex_nil ⟨(f.fmod s).toNat, a6 ▸ cd_meas hs, rfl, s, f.fmod s, u2, u, rfl, rfl, b1, b2, b3, rfl⟩) fun p hp => .tail _ hp⟩
  · rintro k l' n ⟨rfl, f, s, u1, u2, a1, a2, a3, a4, a5, a6, a7⟩
    have hs : ¬ 0 < s := by simpa using a7.symm
    refine ex_ret ((ev_local a1 rfl rfl).mono ?_)
    rintro r n ⟨rfl, rfl⟩
    exact ⟨rfl, u1, congrArg (Value.int · u1) (cd_end a3 a4 hs a5)⟩
theorem fraction_con (W : Wx) (news) (top bottom : Int) (t1 t2 : Tok) (h0 : 0 < bottom) : Con W.w W.mean W.mg W.mb 120 80 news [.int top t1, .int bottom t2] (fun r news' => Som4 fun D u1 u2 c => Amd3 (r = .ref D) (news' = (D, frO (Rat.divInt top bottom) u1 u2 c) :: news) ((∀ p ∈ news, p.1 < D))) := by
  refine' con_ofB [(Str.ofString "top", .int top t1), (Str.ofString "bottom", .int bottom t2)] (l := [(Str.ofString "bottom", .int bottom t2), (Str.ofString "top", .int top t1)]) ?ho ?hcd ?hbind ?hloc ?h1 ?h2 ?h3 ?h4 rfl ?_
  case ho => k_is
  case hcd => k_is
  case hbind => exact fun _ X => binds_K X rfl (by k_is) rfl rfl rfl
  case hloc => exact rfl
  case h1 => exact rfl
  case h2 => exact rfl
  case h3 => exact rfl
  case h4 => decide
  intro C
  have hg := gcd_pos (a := top) (b := bottom) h0
  refine ex_ifF (P := fun n => n = news) (tst_int (evI_of (ev_local rfl rfl rfl)) evI_const (cmp_eq0 h0) rfl) ?_
  rintro n rfl
  refine ex_ifF (P := fun n' => n' = n) (tst_int (evI_of (ev_local rfl rfl rfl)) evI_const (cmp_lt0 h0) rfl) ?_
  rintro n rfl
  refine ex_set (ev_callV (ev_fn (fn_common_divisor W).1 rfl rfl) (fn_common_divisor W).2 (evsV_cons (ev_local rfl rfl rfl) (evsV_cons (ev_local rfl rfl rfl) evsV_nil)) (cd_con W _ _ _ _ _ (Int.le_of_lt h0)) (by decide)) rfl rfl ?_
  rintro v n ⟨rfl, u, rfl⟩
  refine ex_ret (ev_tuple (P := fun vs n' => (Som2 fun u1 u2 => vs = [.int (Rat.divInt top bottom).num u1, .int ((Rat.divInt top bottom).den : Int) u2]) ∧ n' = n) (evs_cons (evI_div (evI_of (ev_local rfl rfl rfl)) (evI_of (ev_local rfl rfl rfl)) (ne_pos hg) (by decide)) ?_) ?_)
  · rintro v n ⟨⟨u1, rfl⟩, rfl⟩
    refine evs_cons (evI_div (evI_of (ev_local rfl rfl rfl)) (evI_of (ev_local rfl rfl rfl)) (ne_pos hg) (by decide)) ?_
    rintro v n ⟨⟨u2, rfl⟩, rfl⟩
    refine evs_nil.mono ?_
    rintro vs n ⟨rfl, rfl⟩
    exact ⟨⟨u1, u2, by rw [num_fr h0, den_fr h0]⟩, rfl⟩
  · rintro vs n' D ⟨⟨u1, u2, rfl⟩, rfl⟩ hD
    exact ⟨by simp, D, u1, u2, 0, rfl, rfl, ktn_ltOf hD⟩
theorem fraction_one (W : Wx) (news) (top : Int) (t1 : Tok) : Con W.w W.mean W.mg W.mb 120 80 news [.int top t1] (fun r news' => Som4 fun D u1 u2 c => Amd3 (r = .ref D) (news' = (D, frO (Rat.divInt top 1) u1 u2 c) :: news) ((∀ p ∈ news, p.1 < D))) := by
  have h0 : (0 : Int) < 1 := by decide
  refine' con_ofB [(Str.ofString "top", .int top t1), (Str.ofString "bottom", .int 1 273)] (l := [(Str.ofString "bottom", .int 1 273), (Str.ofString "top", .int top t1)]) ?ho ?hcd ?hbind ?hloc ?h1 ?h2 ?h3 ?h4 rfl ?_
  case ho => k_is
  case hcd => k_is
  case hbind => exact fun _ X => binds_K X rfl (by k_is) rfl rfl rfl
  case hloc => exact rfl
  case h1 => exact rfl
  case h2 => exact rfl
  case h3 => exact rfl
  case h4 => decide
  intro C
  have hg := gcd_pos (a := top) (b := 1) h0
  refine ex_ifF (P := fun n => n = news) (tst_int (evI_of (ev_local rfl rfl rfl)) evI_const (cmp_eq0 h0) rfl) ?_
  rintro n rfl
  refine ex_ifF (P := fun n' => n' = n) (tst_int (evI_of (ev_local rfl rfl rfl)) evI_const (cmp_lt0 h0) rfl) ?_
  rintro n rfl
  refine ex_set (ev_callV (ev_fn (fn_common_divisor W).1 rfl rfl) (fn_common_divisor W).2 (evsV_cons (ev_local rfl rfl rfl) (evsV_cons (ev_local rfl rfl rfl) evsV_nil)) (cd_con W _ _ _ _ _ (Int.le_of_lt h0)) (by decide)) rfl rfl ?_
  rintro v n ⟨rfl, u, rfl⟩
  refine ex_ret (ev_tuple (P := fun vs n' => (Som2 fun u1 u2 => vs = [.int (Rat.divInt top 1).num u1, .int ((Rat.divInt top 1).den : Int) u2]) ∧ n' = n) (evs_cons (evI_div (evI_of (ev_local rfl rfl rfl)) (evI_of (ev_local rfl rfl rfl)) (ne_pos hg) (by decide)) ?_) ?_)
  · rintro v n ⟨⟨u1, rfl⟩, rfl⟩
    refine evs_cons (evI_div (evI_of (ev_local rfl rfl rfl)) (evI_of (ev_local rfl rfl rfl)) (ne_pos hg) (by decide)) ?_
    rintro v n ⟨⟨u2, rfl⟩, rfl⟩
    refine evs_nil.mono ?_
    rintro vs n ⟨rfl, rfl⟩
    exact ⟨⟨u1, u2, by rw [num_fr h0, den_fr h0]⟩, rfl⟩
  · rintro vs n' D ⟨⟨u1, u2, rfl⟩, rfl⟩ hD
    exact ⟨by simp, D, u1, u2, 0, rfl, rfl, ktn_ltOf hD⟩

end Mine

end
section
set_option linter.unusedVariables false
open PySem PySem.W PyProof.Rows PySem.Calls
set_option Elab.async false
set_option maxRecDepth 100000
set_option maxHeartbeats 1000000
namespace Mine
theorem plus_con (W : Wx) (news) (va vb : Value) (a b : Rat) (m n : Nat) (ha : FrIn news va m a) (hb : FrIn news vb n b) (hs : m + n ≤ 67108864) : Con W.w W.mean W.mg W.mb 121 87 news [va, vb] (fun r news' => Som4 fun D u1 u2 c => Amd3 (r = .ref D) (news' = (D, frO (a + b) u1 u2 c) :: news) ((∀ p ∈ news, p.1 < D))) := by
  have hsa := ha.sm
  have hsb := hb.sm
  refine' con_of [(Str.ofString "a", va), (Str.ofString "b", vb)] (l := [(Str.ofString "b", vb), (Str.ofString "a", va)]) ?ho ?hcd ?hbind ?hloc ?h1 ?h2 ?h3 ?h4 rfl ?_
  case ho => k_is
  case hcd => k_is
  case hbind => exact rfl
  case hloc => exact rfl
  case h1 => exact rfl
  case h2 => exact rfl
  case h3 => exact rfl
  case h4 => decide
  intro C
  refine ex_ret (ev_callII (fn_fraction W).2 (ev_fn (fn_fraction W).1 rfl rfl) (evI_add (evI_mul (evI_num (ev_local rfl rfl rfl) ha) (evI_den (ev_local rfl rfl rfl) hb) (IntMulOk.of_le hsa.1 hsb.2 (le_lim hs))) (evI_mul (evI_num (ev_local rfl rfl rfl) hb) (evI_den (ev_local rfl rfl rfl) ha) (IntMulOk.of_le hsb.1 hsa.2 (le_lim' hs)))) (evI_mul (evI_den (ev_local rfl rfl rfl) ha) (evI_den (ev_local rfl rfl rfl) hb) (IntMulOk.of_le hsa.2 hsb.2 (le_lim hs))) (fun t u => (fraction_con W _ _ _ _ _ (Int.mul_pos (den_pos a) (den_pos b))).mono fun r n h => ?_) (by decide))
  rwa [plus_q] at h
theorem minus_con (W : Wx) (news) (va vb : Value) (a b : Rat) (m n : Nat) (ha : FrIn news va m a) (hb : FrIn news vb n b) (hs : m + n ≤ 67108864) : Con W.w W.mean W.mg W.mb 121 94 news [va, vb] (fun r news' => Som4 fun D u1 u2 c => Amd3 (r = .ref D) (news' = (D, frO (a - b) u1 u2 c) :: news) ((∀ p ∈ news, p.1 < D))) := by
  have hsa := ha.sm
  have hsb := hb.sm
  refine' con_of [(Str.ofString "a", va), (Str.ofString "b", vb)] (l := [(Str.ofString "b", vb), (Str.ofString "a", va)]) ?ho ?hcd ?hbind ?hloc ?h1 ?h2 ?h3 ?h4 rfl ?_
  case ho => k_is
  case hcd => k_is
  case hbind => exact rfl
  case hloc => exact rfl
  case h1 => exact rfl
  case h2 => exact rfl
  case h3 => exact rfl
  case h4 => decide
  intro C
  refine ex_ret (ev_callII (fn_fraction W).2 (ev_fn (fn_fraction W).1 rfl rfl) (evI_sub (evI_mul (evI_num (ev_local rfl rfl rfl) ha) (evI_den (ev_local rfl rfl rfl) hb) (IntMulOk.of_le hsa.1 hsb.2 (le_lim hs))) (evI_mul (evI_num (ev_local rfl rfl rfl) hb) (evI_den (ev_local rfl rfl rfl) ha) (IntMulOk.of_le hsb.1 hsa.2 (le_lim' hs)))) (evI_mul (evI_den (ev_local rfl rfl rfl) ha) (evI_den (ev_local rfl rfl rfl) hb) (IntMulOk.of_le hsa.2 hsb.2 (le_lim hs))) (fun t u => (fraction_con W _ _ _ _ _ (Int.mul_pos (den_pos a) (den_pos b))).mono fun r n h => ?_) (by decide))
  rwa [minus_q] at h
theorem times_con (W : Wx) (news) (va vb : Value) (a b : Rat) (m n : Nat) (ha : FrIn news va m a) (hb : FrIn news vb n b) (hs : m + n ≤ 67108864) : Con W.w W.mean W.mg W.mb 121 101 news [va, vb] (fun r news' => Som4 fun D u1 u2 c => Amd3 (r = .ref D) (news' = (D, frO (a * b) u1 u2 c) :: news) ((∀ p ∈ news, p.1 < D))) := by
  have hsa := ha.sm
  have hsb := hb.sm
  refine' con_of [(Str.ofString "a", va), (Str.ofString "b", vb)] (l := [(Str.ofString "b", vb), (Str.ofString "a", va)]) ?ho ?hcd ?hbind ?hloc ?h1 ?h2 ?h3 ?h4 rfl ?_
  case ho => k_is
  case hcd => k_is
  case hbind => exact rfl
  case hloc => exact rfl
  case h1 => exact rfl
  case h2 => exact rfl
  case h3 => exact rfl
  case h4 => decide
  intro C
  refine ex_ret (ev_callII (fn_fraction W).2 (ev_fn (fn_fraction W).1 rfl rfl) (evI_mul (evI_num (ev_local rfl rfl rfl) ha) (evI_num (ev_local rfl rfl rfl) hb) (IntMulOk.of_le hsa.1 hsb.1 (le_lim hs))) (evI_mul (evI_den (ev_local rfl rfl rfl) ha) (evI_den (ev_local rfl rfl rfl) hb) (IntMulOk.of_le hsa.2 hsb.2 (le_lim hs))) (fun t u => (fraction_con W _ _ _ _ _ (Int.mul_pos (den_pos a) (den_pos b))).mono fun r n h => ?_) (by decide))
  rwa [times_q] at h

end Mine

end
section
set_option linter.unusedVariables false
open PySem PySem.W PyProof.Rows PySem.Calls
set_option Elab.async false
set_option maxRecDepth 100000
set_option maxHeartbeats 1000000
namespace Mine
/-- the ledger has grown, and of what was made P holds -/
def Gr (news : Led) (P : Led → Value → Prop) (r : Value) (n : Led) : Prop := ∃ tl, Amd3 (n = tl ++ news) (Abv news tl) (P tl r)
theorem fr_post {news : Led} {r : Value} {n : Led} {q : Rat} {m : Nat} (hs : Sm m q) (h : Som4 fun D u1 u2 c => Amd3 (r = .ref D) (n = (D, frO q u1 u2 c) :: news) ((∀ p ∈ news, p.1 < D))) : Gr news (fun tl r => FrIn tl r m q) r n := by
  obtain ⟨D, u1, u2, c, rfl, rfl, l⟩ := h
  exact ⟨[_], rfl, Abv.cons (allLt_of l) Abv.nil, ⟨D, u1, u2, c, rfl, .head _, hs⟩⟩
section
variable {W : Wx} {room : Nat} {sc : Scope} {cl : List (Str × Addr)} {C : Cx W room sc cl} {en : Env} {l : Bnd} {news : Led}
theorem ev_callVV {fe e1 e2 : PySem.Expr} {p : Pos} {a : Addr} {cost : Nat} {x y : Value} {post : Value → Led → Prop} (hk : keepIn (hd.heap_39 W.w.params) (.ref a) = true) (hfe : EvV C en l news fe (.ref a)) (h1 : EvV C en l news e1 x) (h2 : EvV C en l news e2 y)
    (hc : Con W.w W.mean W.mg W.mb cost a news [x, y] post) (hr : cost ≤ room)
    (he1 : starEach [e1, e2] en = (false, eval e1 en) :: starEach [e2] en := by rfl) (he2 : starEach [e2] en = (false, eval e2 en) :: starEach [] en := by rfl) (hplain : ∀ pos, (backTo pos (starEach [e2] en)).any (·.1) = false := by intro _; rfl)
    (hst : eval (.Call fe [e1, e2] [] p) en = (do callWith p (← eval fe en) [] (backTo p (starEach [e1, e2] en)) (backToKw p (keywordEach [] en))) := by rfl) : Ev C en l news (.Call fe [e1, e2] [] p) post :=
  ev_callV hfe hk (evsV_cons h1 (evsV_cons h2 evsV_nil he2) he1) hc hr he1 hplain hst
theorem ev_callVE {fe e1 e2 : PySem.Expr} {p : Pos} {a : Addr} {cost : Nat} {x : Value} {P post : Value → Led → Prop} (hk : keepIn (hd.heap_39 W.w.params) (.ref a) = true) (hfe : EvV C en l news fe (.ref a)) (h1 : EvV C en l news e1 x) (h2 : Ev C en l news e2 P)
    (hc : ∀ y n, P y n → Con W.w W.mean W.mg W.mb cost a n [x, y] post) (hr : cost ≤ room)
    (he1 : starEach [e1, e2] en = (false, eval e1 en) :: starEach [e2] en := by rfl) (he2 : starEach [e2] en = (false, eval e2 en) :: starEach [] en := by rfl) (hplain : ∀ pos, (backTo pos (starEach [e2] en)).any (·.1) = false := by intro _; rfl)
    (hst : eval (.Call fe [e1, e2] [] p) en = (do callWith p (← eval fe en) [] (backTo p (starEach [e1, e2] en)) (backToKw p (keywordEach [] en))) := by rfl) : Ev C en l news (.Call fe [e1, e2] [] p) post :=
  ev_call hfe hk (P := fun vs n => ∃ y, vs = [x, y] ∧ P y n) (evs_cons h1 (fun v n ⟨a1, a2⟩ => by subst a1; subst a2; exact evs_cons h2 (fun v n h => evs_nil.mono fun vs n' ⟨a5, a6⟩ => by subst a5; subst a6; exact ⟨v, rfl, h⟩) he2) he1)
    (fun vs n ⟨y, a1, a2⟩ => by subst a1; exact hc y n a2) hr he1 hplain hst
end
noncomputable def mx (a b t : Rat) : Rat := a + t * (b - a)
noncomputable def mixP (p q : Pt) (t : Rat) : Pt := (mx p.1 q.1 t, mx p.2 q.2 t)
noncomputable def mixB (m k : Nat) : Nat := m + (k + (m + m + 1)) + 1
theorem mixed_co {W : Wx} {room : Nat} {sc : Scope} {cl : List (Str × Addr)} {C : Cx W room sc cl} {en : Env} {l : Bnd} {news : Led} {e1 e2 e3 e4 : PySem.Expr} {p1 p2 p3 o1 o2 o3 : Pos} {vp vq vt : Value} {p q t : Rat} {m k : Nat} (hroom : 121 ≤ room)
    (f1 : EvV C en l news (.Name (Str.ofString "plus") o1) (.ref 87)) (f2 : EvV C en l news (.Name (Str.ofString "times") o2) (.ref 101)) (f3 : EvV C en l news (.Name (Str.ofString "minus") o3) (.ref 94)) (h1 : EvV C en l news e1 vp) (h2 : EvV C en l news e2 vt) (h3 : EvV C en l news e3 vq) (h4 : EvV C en l news e4 vp)
    (hp : FrIn news vp m p) (hq : FrIn news vq m q) (ht : FrIn news vt k t) (hs : mixB m k ≤ 67108864)
    (a1 : starEach [e1, .Call (.Name (Str.ofString "times") o2) [e2, .Call (.Name (Str.ofString "minus") o3) [e3, e4] [] p3] [] p2] en = (false, eval e1 en) :: starEach [.Call (.Name (Str.ofString "times") o2) [e2, .Call (.Name (Str.ofString "minus") o3) [e3, e4] [] p3] [] p2] en) (a2 : starEach [e2, .Call (.Name (Str.ofString "minus") o3) [e3, e4] [] p3] en = (false, eval e2 en) :: starEach [.Call (.Name (Str.ofString "minus") o3) [e3, e4] [] p3] en)
    (a3 : starEach [e3, e4] en = (false, eval e3 en) :: starEach [e4] en) (a4 : starEach [e4] en = (false, eval e4 en) :: starEach [] en) (a5 : ∀ pos, (backTo pos (starEach [e4] en)).any (·.1) = false) :
    Ev C en l news (.Call (.Name (Str.ofString "plus") o1) [e1, .Call (.Name (Str.ofString "times") o2) [e2, .Call (.Name (Str.ofString "minus") o3) [e3, e4] [] p3] [] p2] [] p1) (Gr news (fun tl r => FrIn tl r (mixB m k) (mx p q t))) := by
  have s1 := sm_sub hq.sm hp.sm
  have s2 := sm_mul ht.sm s1
  have s3 := sm_add hp.sm s2
  unfold mixB at hs ⊢
  refine ev_callVE (fn_plus W).2 f1 h1 (ev_callVE (fn_times W).2 f2 h2 (ev_callVV (fn_minus W).2 f3 h3 h4 ((minus_con W _ _ _ _ _ _ _ hq hp (Nat.le_trans (by omega) hs)).mono fun r n h => fr_post s1 h) hroom a3 a4 a5) (post := Gr news fun tl r => FrIn tl r (k + (m + m + 1)) (t * (q - p))) ?_ hroom a2) ?_ hroom a1
  · rintro y n ⟨tl, rfl, ab, hy⟩
    refine (times_con W _ _ _ _ _ _ _ (ht.mono fun p hp => mem_app hp) (hy.mono fun p hp => List.mem_append.mpr (.inl hp)) (Nat.le_trans (by omega) hs)).mono fun r n h => ?_
    obtain ⟨tl2, rfl, ab2, hr⟩ := fr_post s2 h
    exact ⟨tl2 ++ tl, (List.append_assoc _ _ _).symm, ab.app ab2, hr.mono fun p hp => List.mem_append.mpr (.inl hp)⟩
  · rintro y n ⟨tl, rfl, ab, hy⟩
    refine (plus_con W _ _ _ _ _ _ _ (hp.mono fun p hp => mem_app hp) (hy.mono fun p hp => List.mem_append.mpr (.inl hp)) (Nat.le_trans (by omega) hs)).mono fun r n h => ?_
    obtain ⟨tl2, rfl, ab2, hr⟩ := fr_post s3 h
    exact ⟨tl2 ++ tl, (List.append_assoc _ _ _).symm, ab.app ab2, hr.mono fun p hp => List.mem_append.mpr (.inl hp)⟩
theorem mixed_con (W : Wx) (news) (vp vq vt : Value) (p q : Pt) (t : Rat) (m k : Nat) (hp : PtIn news m vp p) (hq : PtIn news m vq q) (ht : FrIn news vt k t) (hs : mixB m k ≤ 67108864) :
    Con W.w W.mean W.mg W.mb 122 108 news [vp, vq, vt] (Gr news (fun tl r => PtIn tl (mixB m k) r (mixP p q t))) := by
  obtain ⟨lp, vp1, vp2, cp, rfl, hmp, hp1, hp2⟩ := hp
  obtain ⟨lq, vq1, vq2, cq, rfl, hmq, hq1, hq2⟩ := hq
  refine' con_of [(Str.ofString "p", .ref lp), (Str.ofString "q", .ref lq), (Str.ofString "t", vt)] (l := [(Str.ofString "t", vt), (Str.ofString "q", .ref lq), (Str.ofString "p", .ref lp)]) ?ho ?hcd ?hbind ?hloc ?h1 ?h2 ?h3 ?h4 rfl ?_
  case ho => k_is
  case hcd => k_is
  case hbind => exact rfl
  case hloc => exact rfl
  case h1 => exact rfl
  case h2 => exact rfl
  case h3 => exact rfl
  case h4 => decide
  intro C
  have p0 : ∀ {n : Led} {a b c d : Pos} {k : Nat}, (∀ z ∈ news, z ∈ n) → EvV C C.env [(Str.ofString "t", vt), (Str.ofString "q", .ref lq), (Str.ofString "p", .ref lp)] n (.Subscript (.Name (Str.ofString "p") a) (.Constant (.int 0) k b) c) vp1 := fun hs => ev_item (vs := [vp1, vp2]) (ev_local rfl rfl rfl) evI_const (hs _ hmp) (by decide) (by decide) (j := 0) rfl rfl
  have p1 : ∀ {n : Led} {a b c d : Pos} {k : Nat}, (∀ z ∈ news, z ∈ n) → EvV C C.env [(Str.ofString "t", vt), (Str.ofString "q", .ref lq), (Str.ofString "p", .ref lp)] n (.Subscript (.Name (Str.ofString "p") a) (.Constant (.int 1) k b) c) vp2 := fun hs => ev_item (vs := [vp1, vp2]) (ev_local rfl rfl rfl) evI_const (hs _ hmp) (by decide) (by decide) (j := 1) rfl rfl
  have q0 : ∀ {n : Led} {a b c d : Pos} {k : Nat}, (∀ z ∈ news, z ∈ n) → EvV C C.env [(Str.ofString "t", vt), (Str.ofString "q", .ref lq), (Str.ofString "p", .ref lp)] n (.Subscript (.Name (Str.ofString "q") a) (.Constant (.int 0) k b) c) vq1 := fun hs => ev_item (vs := [vq1, vq2]) (ev_local rfl rfl rfl) evI_const (hs _ hmq) (by decide) (by decide) (j := 0) rfl rfl
  have q1 : ∀ {n : Led} {a b c d : Pos} {k : Nat}, (∀ z ∈ news, z ∈ n) → EvV C C.env [(Str.ofString "t", vt), (Str.ofString "q", .ref lq), (Str.ofString "p", .ref lp)] n (.Subscript (.Name (Str.ofString "q") a) (.Constant (.int 1) k b) c) vq2 := fun hs => ev_item (vs := [vq1, vq2]) (ev_local rfl rfl rfl) evI_const (hs _ hmq) (by decide) (by decide) (j := 1) rfl rfl
  refine ex_ret (ev_tuple (P := fun vs n => Som3 fun v1 v2 tl => Amd5 (vs = [v1, v2]) (n = tl ++ news) (Abv news tl) (FrIn tl v1 (mixB m k) (mx p.1 q.1 t)) (FrIn tl v2 (mixB m k) (mx p.2 q.2 t))) (evs_cons (mixed_co (by decide) (ev_fn (fn_plus W).1 rfl rfl) (ev_fn (fn_times W).1 rfl rfl) (ev_fn (fn_minus W).1 rfl rfl) (p0 (d := default) fun _ h => h) (ev_local rfl rfl rfl) (q0 (d := default) fun _ h => h) (p0 (d := default) fun _ h => h) hp1 hq1 ht hs rfl rfl rfl rfl (fun _ => rfl)) ?_) ?_)
  · rintro v n ⟨tl, rfl, ab, hv⟩
    refine evs_cons (mixed_co (by decide) (ev_fn (fn_plus W).1 rfl rfl) (ev_fn (fn_times W).1 rfl rfl) (ev_fn (fn_minus W).1 rfl rfl) (p1 (d := default) fun _ h => mem_app h) (ev_local rfl rfl rfl) (q1 (d := default) fun _ h => mem_app h) (p1 (d := default) fun _ h => mem_app h) (hp2.mono fun _ h => mem_app h) (hq2.mono fun _ h => mem_app h) (ht.mono fun _ h => mem_app h) hs rfl rfl rfl rfl (fun _ => rfl)) ?_
    rintro v2 n ⟨tl2, rfl, ab2, hv2⟩
    refine evs_nil.mono ?_
    rintro vs n ⟨rfl, rfl⟩
    exact ⟨v, v2, tl2 ++ tl, rfl, (List.append_assoc _ _ _).symm, ab.app ab2, hv.mono fun _ h => mem_app h, hv2.mono fun p hp => List.mem_append.mpr (.inl hp)⟩
  · rintro vs n D ⟨v1, v2, tl, rfl, rfl, ab, h1, h2⟩ hD
    refine ⟨Nat.le_of_ble_eq_true rfl, (D, tupO #[v1, v2] 0) :: tl, rfl, Abv.cons hD ab, D, v1, v2, 0, rfl, .head _, h1.mono fun p hp => .tail _ hp, h2.mono fun p hp => .tail _ hp⟩

end Mine

end
section
set_option linter.unusedVariables false
open PySem PySem.W PyProof.Rows PySem.Calls
set_option Elab.async false
set_option maxRecDepth 100000
set_option maxHeartbeats 1000000
namespace Mine
noncomputable def mixRow : List Pt → Rat → List Pt
  | p :: q :: r, t => mixP p q t :: mixRow (q :: r) t
  | _, _ => []
/-- the rows from a row on -/
noncomputable def rowsFrom (t : Rat) : Nat → List Pt → List (List Pt)
  | 0, ps => [ps]
  | n + 1, ps => ps :: rowsFrom t n (mixRow ps t)
noncomputable def bnd (k : Nat) : Nat → Nat → Nat
  | 0, m => m
  | j + 1, m => mixB (bnd k j m) k
theorem mixB_le (m k : Nat) : m ≤ mixB m k := by unfold mixB; omega
theorem bnd_le (k m : Nat) : ∀ {i j : Nat}, i ≤ j → bnd k i m ≤ bnd k j m
  | i, 0, h => by have : i = 0 := by omega
                  subst this; exact Nat.le_refl _
  | i, j + 1, h => by
    by_cases e : i = j + 1
    · subst e; exact Nat.le_refl _
    · exact Nat.le_trans (bnd_le k m (i := i) (j := j) (by omega)) (mixB_le _ _)
theorem mixRow_len (t : Rat) : ∀ ps : List Pt, (mixRow ps t).length = ps.length - 1
  | [] => rfl
  | [_] => rfl
  | _ :: q :: r => congrArg (· + 1) (mixRow_len t (q :: r))
theorem rowsFrom_step (t : Rat) {cur : List Pt} (h : 2 ≤ cur.length) : rowsFrom t (cur.length - 1) cur = cur :: rowsFrom t ((mixRow cur t).length - 1) (mixRow cur t) := by
  rw [mixRow_len]
  obtain ⟨n, e⟩ := Nat.exists_eq_succ_of_ne_zero (Nat.sub_ne_zero_of_lt h)
  rw [e]
  rfl
theorem mixRow_get (t : Rat) : ∀ (ps : List Pt) (i : Nat) (p q : Pt), ps[i]? = some p → ps[i + 1]? = some q → (mixRow ps t)[i]? = some (mixP p q t)
  | [], i, p, q, h, _ => by simp at h
  | [_], i, p, q, _, h => by simp at h
  | a :: b :: r, 0, p, q, h, k => by
    simp at h k
    subst h; subst k
    simp [mixRow]
  | a :: b :: r, i + 1, p, q, h, k => by
    have := mixRow_get t (b :: r) i p q (by simpa using h) (by simpa using k)
    simpa [mixRow] using this

end Mine

end
section
set_option linter.unusedVariables false
open PySem PySem.W PyProof.Rows PySem.Calls
set_option Elab.async false
set_option maxRecDepth 100000
set_option maxHeartbeats 1000000
namespace Mine
section
variable {W : Wx} {room : Nat} {sc : Scope} {cl : List (Str × Addr)} {C : Cx W room sc cl} {en : Env} {l : Bnd} {news : Led}
/-- what is borne may be told of a smaller ledger -/
theorem Ev.weak {e : PySem.Expr} {P P' : Value → Led → Prop} (h : Ev C en l news e P) (k : ∀ v n, P v n → ∃ n', (∀ p ∈ n', p ∈ n) ∧ P' v n') : Ev C en l news e P' :=
  fun E Q s F N q => h E Q s F N fun v n h' tk F' N' p => by
    obtain ⟨n', hs, p'⟩ := k v n p
    exact q v n' h' tk F' (cb_drop N' hs) p'
theorem mem_l {p : Addr × Obj} {tl news : Led} (h : p ∈ tl) : p ∈ tl ++ news := List.mem_append.mpr (.inl h)
/-- the points of a curve -/
theorem CvIn.at {n : Led} {m : Nat} {v : Value} {ps : List Pt} (h : CvIn n m v ps) : Som3 fun r vs c => Amd4 (v = .ref r) ((r, tupO vs.toArray c) ∈ n) (vs.length = ps.length) (All2 (PtIn n m) vs ps) := by
  obtain ⟨r, vs, c, e, hm, ha⟩ := h
  exact ⟨r, vs, c, e, hm, ha.len, ha⟩
theorem All2.last {α β : Type} {R : α → β → Prop} : ∀ {as : List α} {bs : List β} {b : β}, All2 R as bs → bs.getLast? = some b → ∃ a, as[as.length - 1]? = some a ∧ R a b := fun {as bs b} h e => by
  rw [List.getLast?_eq_getElem?] at e
  obtain ⟨a, ha, hr⟩ := h.get' _ _ e
  exact ⟨a, by rw [h.len]; exact ha, hr⟩
theorem All2.rev {α β : Type} {R : α → β → Prop} : ∀ {as : List α} {bs : List β}, All2 R as bs → All2 R as.reverse bs.reverse
  | [], [], _ => True.intro
  | a :: as, b :: bs, h => by
    rw [List.reverse_cons, List.reverse_cons]
    exact All2.app (as' := [a]) (bs' := [b]) ⟨h.1, True.intro⟩ h.2.rev
theorem ev_ty {W : Wx} {room : Nat} {sc : Scope} {cl : List (Str × Addr)} {C : Cx W room sc cl} {l : Bnd} {news : Led} {x : Str} {p : Pos} {v : Value} (h : nsIn (hd.heap_39 W.w.params) mainGlobals x = some none ∧ bootBuiltins x = some v) (hn : x ≠ "__name__" := by decide) (hx : (envX C.cn sc C.L C.fa C.ccd cl).kindOf x = some .globalImplicit := by rfl) (hd : (x == ("__debug__" : Str)) = false := by rfl) : EvV C C.env l news (.Name x p) v :=
  ev_bi h.1 h.2 hn hx hd
/-- tuple(a comprehension) -/
theorem ev_tcomp {e : PySem.Expr} {p o : Pos} {P : List Value → Led → Prop} (hf : EvV C en l news (.Name (Str.ofString "tuple") o) (.type "tuple")) (ha : Ev C en l news e (fun v n => Som3 fun D ys nx => Amd4 (v = .ref D) (n = (D, listOf (ys : List Value).toArray ys.length) :: nx) (ys.length ≤ 16384) (P ys nx)))
    (he : starEach [e] en = (false, eval e en) :: starEach [] en := by rfl)
    (hst : eval (.Call (.Name (Str.ofString "tuple") o) [e] [] p) en = (do callWith p (← eval (.Name (Str.ofString "tuple") o) en) [] (backTo p (starEach [e] en)) (backToKw p (keywordEach [] en))) := by rfl) : Ev C en l news (.Call (.Name (Str.ofString "tuple") o) [e] [] p) (fun v n => Som3 fun D ys nx => Amd4 (v = .ref D) (n = (D, tupO (ys : List Value).toArray 0) :: nx) (AllLt D nx) (P ys nx)) :=
  (ev_tupL hf ha (post := fun v n => Som4 fun D ys D' nx => Amd4 (v = .ref D) (n = (D, tupO (ys : List Value).toArray 0) :: (D', listOf ys.toArray ys.length) :: nx) (AllLt D nx) (P ys nx)) (fun v n ⟨D, ys, nx, e1, e2, hz, hp⟩ => by
    subst e1; subst e2
    exact ⟨D, ys, ys.length, rfl, .head _, hz, fun D2 hD2 => ⟨D2, ys, D, nx, rfl, rfl, hD2.2, hp⟩⟩) he hst).weak fun v n ⟨D, ys, D', nx, e1, e2, h1, h2⟩ => by
    subst e1; subst e2
    refine ⟨(D, tupO ys.toArray 0) :: nx, fun p hp => ?_, D, ys, nx, rfl, rfl, h1, h2⟩
    rcases List.mem_cons.mp hp with rfl | hp
    · exact .head _
    · exact .tail _ (.tail _ hp)
end
noncomputable abbrev Z2 : Pt := (0, 0)
/-- the rows of a curve at a share -/
noncomputable def rowsL (t : Rat) (ps : List Pt) : List (List Pt) := rowsFrom t (ps.length - 1) ps
theorem rowsFrom_ne (t : Rat) : ∀ n ps, rowsFrom t n ps ≠ []
  | 0, _ => by simp [rowsFrom]
  | _ + 1, _ => by simp [rowsFrom]
theorem rowsFrom_len (t : Rat) : ∀ n ps, (rowsFrom t n ps).length = n + 1
  | 0, _ => rfl
  | n + 1, ps => by simp [rowsFrom, rowsFrom_len t n]
theorem rowsFrom_mem (t : Rat) : ∀ n (ps : List Pt), n < ps.length → ∀ r ∈ rowsFrom t n ps, r ≠ []
  | 0, ps, h, r, hr => by
    have : r = ps := by simpa [rowsFrom] using hr
    subst this
    intro e
    rw [e] at h
    exact absurd h (by simp)
  | n + 1, ps, h, r, hr => by
    rcases List.mem_cons.mp hr with rfl | hr
    · intro e
      rw [e] at h
      exact absurd h (by simp)
    · exact rowsFrom_mem t n (mixRow ps t) (by rw [mixRow_len]; omega) r hr
theorem rowsL_mem {t : Rat} {ps : List Pt} (h1 : 1 ≤ ps.length) : ∀ r ∈ rowsL t ps, r ≠ [] := rowsFrom_mem t _ ps (by omega)
theorem rowsL_len {t : Rat} {ps : List Pt} (h1 : 1 ≤ ps.length) : (rowsL t ps).length = ps.length := by
  unfold rowsL
  rw [rowsFrom_len]
  omega
noncomputable def hd2 (r : List Pt) : Pt := r.headD Z2
noncomputable def la2 (r : List Pt) : Pt := r.getLastD Z2
noncomputable def atP (t : Rat) (ps : List Pt) : Pt := hd2 (la2L (rowsL t ps))
where la2L (rs : List (List Pt)) : List Pt := rs.getLastD []
noncomputable def splitL (t : Rat) (ps : List Pt) : List Pt := (rowsL t ps).map hd2
noncomputable def splitR (t : Rat) (ps : List Pt) : List Pt := (rowsL t ps).reverse.map la2
theorem hd_of {r : List Pt} (h : r ≠ []) : r[0]? = some (hd2 r) := by
  cases r with
  | nil => exact absurd rfl h
  | cons a r => rfl
theorem la_of {r : List Pt} (h : r ≠ []) : r.getLast? = some (la2 r) := by
  unfold la2
  rw [List.getLastD_eq_getLast?]
  cases r with
  | nil => exact absurd rfl h
  | cons a r => simp [List.getLast?_cons]

end Mine

end
section
set_option linter.unusedVariables false
open PySem PySem.W PyProof.Rows PySem.Calls
set_option Elab.async false
set_option maxRecDepth 100000
set_option maxHeartbeats 1000000
namespace Mine
theorem bindL_look {kindOf : Str → Option NameKind} : ∀ (binds : List (Str × Value)) (l : Bnd), (∀ x ∈ binds, kindOf x.1 = some .local) → bindL kindOf binds (look l) = look (binds.reverse ++ l)
  | [], l, _ => rfl
  | (n, v) :: r, l, h => by
    have e : kindOf n = some .local := h (n, v) (.head _)
    show bindL kindOf r (if kindOf n = some .local then fun y => if y = n then some v else look l y else look l) = _
    rw [if_pos e, look_set, bindL_look r ((n, v) :: l) fun x hx => h x (.tail _ hx), List.reverse_cons, List.append_assoc]
    rfl
theorem bindC_none {kindOf : Str → Option NameKind} : ∀ (binds : List (Str × Value)) (m : Str → Option Value), (∀ x ∈ binds, kindOf x.1 = some .local) → bindC kindOf binds m = m
  | [], m, _ => rfl
  | (n, v) :: r, m, h => by
    have e : kindOf n = some .local := h (n, v) (.head _)
    show bindC kindOf r (if kindOf n = some .local then m else fun y => if y = n then some v else m y) = _
    rw [if_pos e, bindC_none r m fun x hx => h x (.tail _ hx)]
/-- a contract of a def with cells -/
theorem con_ofK {W : Wx} {room : Nat} {f : Addr} {vals : List Value} {news : Led} {R : Value → Led → Prop} {name qual : Str} {params : Arguments} {body : List Stmt} {scope : Scope} {dV kV doc pm cdv ct oc : Value} {an od : Option Addr} {osl : Array (Option Value)} (binds : List (Str × Value)) {l : Bnd}
    (ho : (hd.heap_39 W.w.params).lookup f = some ⟨oc, od, .func (fnOf name qual params body scope dV kV doc pm an cdv ct), osl⟩) (hcd : codeIn (hd.heap_39 W.w.params) cdv qual = true)
    (hbind : bindArgs (fnOf name qual params body scope dV kV doc pm an cdv ct) ⟨vals, []⟩ = pure binds) (hkind : (binds.all fun y => scope.names.lookup y.1 == some .local || scope.names.lookup y.1 == some .cell) = true)
    (hnd : ((cellsFrom 0 scope.names []).map (·.1)).Nodup) (hl : ∀ L', bindL (envOfC qual scope L' f cdv).kindOf binds (look []) = look l)
    (hco : scope.isCoroutine = false) (hgen : scope.isGenerator = false) (hk : scope.kind = .function)
    (hb : ∀ (L' : Addr) (C : Cx W room scope (cellsFrom (L' + 1) scope.names [])) (cells : Led), CellsAre (bindC (envOfC qual scope L' f cdv).kindOf binds fun _ => none) (cellsFrom (L' + 1) scope.names []) cells → (∀ p ∈ news, p.1 < L') → Ex C C.env l (cells ++ news) body R (fun _ _ => False)) : Con W.w W.mean W.mg W.mb (room + 1) f news vals R := by
  intro dp un gd cn cs fa ccd cl outer A₀ base h₀ L m s Q E B F X N T hkc hd hu q
  refine wpAny_call (code_defC B F X N T rfl rfl hkc ho hcd (Nat.lt_of_le_of_lt (Nat.le_add_right _ _) hd) (BindsTo.of_eq hbind) hkind hnd (fun g L' h₁ tk cells FG F' N' Y B' X' T' l1 => ?_) hco hgen hk)
  have e0 : (fun _ => none : Str → Option Value) = look [] := rfl
  rw [e0, hl L'] at F'
  refine hb L' ⟨dp + 1, un + 3, gd, qual, f, cdv, envX cn cs L fa ccd cl :: outer, _, base, g, L', B', X', T', hk, by omega, by omega⟩ cells Y l1 _ _ _ PassesOwn.leaving F' N' ?_ ?_
  · intro v l' n' h' tk' F2 N2 p
    exact leaveK_ F2 N2 fun F3 N3 => q v n' h' tk' F3 N3 p
  · intro l' n' h' tk' F2 N2 p
    exact p.elim
/-- .. its parameters being none of them -/
theorem con_ofC {W : Wx} {room : Nat} {f : Addr} {vals : List Value} {news : Led} {R : Value → Led → Prop} {name qual : Str} {params : Arguments} {body : List Stmt} {scope : Scope} {dV kV doc pm cdv ct oc : Value} {an od : Option Addr} {osl : Array (Option Value)} (binds : List (Str × Value)) {l : Bnd}
    (ho : (hd.heap_39 W.w.params).lookup f = some ⟨oc, od, .func (fnOf name qual params body scope dV kV doc pm an cdv ct), osl⟩) (hcd : codeIn (hd.heap_39 W.w.params) cdv qual = true)
    (hbind : bindArgs (fnOf name qual params body scope dV kV doc pm an cdv ct) ⟨vals, []⟩ = pure binds) (hkind : (binds.all fun y => scope.names.lookup y.1 == some .local || scope.names.lookup y.1 == some .cell) = true)
    (hnd : ((cellsFrom 0 scope.names []).map (·.1)).Nodup) (hloc : ∀ x ∈ binds, scope.names.lookup x.1 = some .local)
    (hco : scope.isCoroutine = false) (hgen : scope.isGenerator = false) (hk : scope.kind = .function)
    (hl : binds.reverse = l) (hb : ∀ (L' : Addr) (C : Cx W room scope (cellsFrom (L' + 1) scope.names [])) (cells : Led), CellsAre (fun _ => none) (cellsFrom (L' + 1) scope.names []) cells → (∀ p ∈ news, p.1 < L') → Ex C C.env l (cells ++ news) body R (fun _ _ => False)) : Con W.w W.mean W.mg W.mb (room + 1) f news vals R := by
  subst hl
  refine con_ofK binds (l := binds.reverse) ho hcd hbind hkind hnd (fun L' => ?_) hco hgen hk fun L' C cells Y l1 => ?_
  · have hkl : ∀ x ∈ binds, (envOfC qual scope L' f cdv).kindOf x.1 = some .local := hloc
    rw [bindL_look binds [] hkl, List.append_nil]
  · have hkl : ∀ x ∈ binds, (envOfC qual scope L' f cdv).kindOf x.1 = some .local := hloc
    rw [bindC_none binds _ hkl] at Y
    exact hb L' C cells Y l1
section
variable {W : Wx} {room : Nat} {sc : Scope} {cl : List (Str × Addr)} {C : Cx W room sc cl} {l : Bnd} {news : Led}
theorem ev_cell {x : Str} {p : Pos} {v : Value} {c : Addr} {o : Obj} (hc : cl.lookup x = some c) (hm : (c, o) ∈ news) (ho : o.data = .cell (some v)) (hx : (envX C.cn sc C.L C.fa C.ccd cl).kindOf x = some .cell) (hd : (x == ("__debug__" : Str)) = false) : EvV C C.env l news (.Name x p) v :=
  fun E Q s F N q => nameX_C N hc hm ho (q v news s.heap s.toks F N ⟨rfl, rfl⟩) C.hk hx hd
/-- x = .., x a cell -/
theorem ex_setC {x : Str} {e : PySem.Expr} {p1 p2 : Pos} {ss : List Stmt} {P : Value → Led → Prop} {R : Value → Led → Prop} {N : Bnd → Led → Prop} {cx : Addr} (he : Ev C C.env l news e P) (hx : (envX C.cn sc C.L C.fa C.ccd cl).kindOf x = some .cell) (hcx : cl.lookup x = some cx)
    (hs : swapsWith e (some (.Name x p1)) p2.line C.env = pure false)
    (k : ∀ v n, P v n → Som3 fun (ox : Obj) wx (keep : Led) => Amd5 ((cx, ox) ∈ n) (ox.data = .cell wx) (∀ p ∈ keep, p ∈ n) (∀ p ∈ keep, p.1 ≠ cx) (∀ ox' : Obj, ox'.data = .cell (some v) → Ex C C.env l ((cx, ox') :: keep) ss R N)) : Ex C C.env l news (.Assign [.Name x p1] e p2 :: ss) R N :=
  fun E Q s pe F Nw r kn => wpAny_execs_cons (wpAny_Assign_Name (he E _ s F Nw fun v n h' tk F' N' p => by
    obtain ⟨ox, wx, keep, hm, hd, hk, hR, kk⟩ := k v n p
    exact cell_op keep F' N' hcx hm hd hk hR (fun h2 o2 F2 N2 d2 => kk o2 d2 E Q _ pe F2 N2 r kn) C.hk hx) hs)
end
/-- the call of steps_of, as an expression's value -/
def RowsP (news : Led) (B : Nat) (rows : List (List Pt)) (v : Value) (n : Led) : Prop := Som4 fun tl vs R c => Amd5 (v = .ref R) (n = tl ++ news) (Abv news tl) ((R, listOf (vs : List Value).toArray c) ∈ tl) (All2 (CvIn (tl ++ news) B) vs rows)
/-- what holds ahead of each turn of steps_of's loop -/
def StepJ (R a : Addr) (base news : Led) (B k m0 : Nat) (t : Rat) (ps : List Pt) (n : Nat) (nx : Led) : Prop :=
  Som8 fun (vsR : List Value) (v : Value) (done : List (List Pt)) (cur : List Pt) (c : Nat) (oa : Obj) (wa : Option Value) (tl : Led) =>
    Amd9 (nx = (R, listOf (vsR ++ [v]).toArray c) :: (a, oa) :: (tl ++ base)) (oa.data = .cell wa) (∀ p ∈ tl, R < p.1) (All2 (CvIn (tl ++ news) B) (vsR ++ [v]) (done ++ [cur])) (CvIn (tl ++ news) (bnd k vsR.length m0) v cur)
      (done ++ rowsFrom t (cur.length - 1) cur = rowsL t ps) (n = cur.length) (1 ≤ n) (vsR.length + n = ps.length)
theorem add_le3 {a b c : Nat} (h : a + b = c) (h4 : c ≤ 4) (h2 : 2 ≤ b) : a + 1 ≤ 3 := Nat.le_of_add_le_add_right (b := 1) (Nat.le_trans (Nat.add_le_add_left h2 a) (h ▸ h4))
theorem last_app {α : Type} (as : List α) (x : α) : (as ++ [x])[(as ++ [x]).length - 1]? = some x := by simp
theorem mem_mid {p : Addr × Obj} {tl news base : Led} (h : ∀ p ∈ news, p ∈ base) (hp : p ∈ tl ++ news) : p ∈ tl ++ base := List.mem_append.mpr ((List.mem_append.mp hp).imp_right (h p))
theorem steps_w (W : Wx) (news) (vc vt : Value) (ps : List Pt) (t : Rat) (m k : Nat) (hp : CvIn news m vc ps) (ht : FrIn news vt k t) (h1 : 1 ≤ ps.length) (h4 : ps.length ≤ 4) (hbd : bnd k 3 m ≤ 67108864) :
    Con W.w W.mean W.mg W.mb 123 113 news [vc, vt] (RowsP news (bnd k 3 m) (rowsL t ps)) := by
  obtain ⟨rc, vs, cc, rfl, hm, hl, ha⟩ := hp.at
  refine' con_ofK [(Str.ofString "curve", .ref rc), (Str.ofString "t", vt)] (l := [(Str.ofString "curve", .ref rc)]) ?ho ?hcd ?hbind ?hkind ?hnd ?hloc ?h1 ?h2 ?h3 ?hb
  case ho => k_is
  case hcd => k_is
  case hbind => exact rfl
  case hkind => exact rfl
  case hnd => decide +kernel
  case hloc => exact fun L' => look_set (l := []) (x := Str.ofString "curve") (v := .ref rc)
  case h1 => exact rfl
  case h2 => exact rfl
  case h3 => exact rfl
  intro L' C cells Y l1
  obtain ⟨o1, o2, rfl, d1, d2⟩ := CellsAre.two Y
  replace d1 : o1.data = .cell none := d1
  replace d2 : o2.data = .cell (some vt) := d2
  dsimp only [List.cons_append, List.nil_append]
  have hT : (L' + 1, o2) ∈ (L' + 1, o2) :: news := .head _
  have hN : ∀ p ∈ news, p ∈ (L' + 1, o2) :: news := fun p hp => .tail _ hp
  have hlt : ∀ p ∈ (L' + 1, o2) :: news, p.1 < L' + 1 + 1 := List.forall_mem_cons.mpr ⟨Nat.lt_succ_self _, fun p hp => Nat.lt_succ_of_lt (Nat.lt_succ_of_lt (l1 p hp))⟩
  generalize (L' + 1, o2) :: news = base at hT hN hlt ⊢
  refine ex_set (P := fun v n => ∃ R, Amd3 (v = .ref R) (n = (R, listOf [Value.ref rc].toArray 0) :: (L' + 1 + 1, o1) :: base) (AllLt R ((L' + 1 + 1, o1) :: base))) ?e1 ?e2 ?e3 ?k
  case e2 => exact rfl
  case e3 => exact rfl
  case e1 =>
    refine ev_list (P := fun us n => us = [.ref rc] ∧ n = (L' + 1 + 1, o1) :: base) (evs_cons (P := fun v n => v = .ref rc ∧ n = (L' + 1 + 1, o1) :: base) (ev_tupT (ev_ty (bi_tuple W)) (ev_local rfl rfl rfl) ?_) ?_) ?_
    · rintro v n ⟨rfl, rfl⟩
      exact ⟨rc, _, cc, rfl, .tail _ (hN _ hm)⟩
    · rintro v n ⟨rfl, rfl⟩
      refine evs_nil.mono ?_
      rintro us n ⟨rfl, rfl⟩
      exact ⟨rfl, rfl⟩
    · rintro us n D ⟨rfl, rfl⟩ hD
      exact ⟨Nat.le_of_ble_eq_true rfl, D, rfl, rfl, hD⟩
  case k =>
    rintro v n ⟨R, rfl, rfl, hR⟩
    have hRa : L' + 1 + 1 < R := ktn_ltOf hR (L' + 1 + 1, o1) (.head _)
    have hRb : ∀ p ∈ base, p.1 < R := fun p hp => ktn_ltOf hR p (.tail _ hp)
    refine ex_while (fun n l' nx => l' = [(Str.ofString "rows", .ref R), (Str.ofString "curve", .ref rc)] ∧ StepJ R (L' + 1 + 1) base news (bnd k 3 m) k m t ps n nx) (fun n l' c nx => Amd3 (l' = [(Str.ofString "rows", .ref R), (Str.ofString "curve", .ref rc)]) (c = decide ((1 : Int) < (n : Int))) (StepJ R (L' + 1 + 1) base news (bnd k 3 m) k m t ps n nx)) ps.length ⟨rfl, ?hz0⟩ ?htst ?hbody ?hfin
    case hz0 =>
      exact ⟨[], .ref rc, [], ps, 0, o1, none, [], rfl, d1, (fun _ h => nomatch h), ⟨hp.le (bnd_le k m (i := 0) (Nat.zero_le _)), True.intro⟩, hp, rfl, rfl, h1, Nat.zero_add _⟩
    case htst =>
      rintro n l' nx ⟨rfl, vsR, v, done, cur, c, oa, wa, tl, rfl, doa, hgt, hall, hcur, hrow, rfl, hn, hlen⟩
      obtain ⟨lv, ws, cv, rfl, hmv, hwl, hwa⟩ := hcur.at
      refine (tst_int (ev_lenV (k := cur.length) (ev_ty (bi_len W)) (ev_subV (ev_local rfl rfl rfl) (evI_neg evI_const) (seqL (.head _)) (At.last (last_app _ _)) (by decide) (by decide)) (seqT (.tail _ (.tail _ (mem_mid hN hmv)))) hwl (Nat.le_trans (hlen ▸ Nat.le_add_left _ _) (Nat.le_trans h4 (by decide)))) evI_const rfl rfl).mono ?_
      rintro c' n' ⟨e1, rfl⟩
      exact ⟨rfl, e1, vsR, .ref lv, done, cur, c, oa, wa, tl, rfl, doa, hgt, hall, hcur, hrow, rfl, hn, hlen⟩
    case hbody =>
      rintro n l' nx ⟨rfl, hc, vsR, v, done, cur, c, oa, wa, tl, rfl, doa, hgt, hall, hcur, hrow, rfl, hn, hlen⟩
      have h2 : 2 ≤ cur.length := Int.ofNat_lt.mp (of_decide_eq_true hc.symm)
      have hj3 : vsR.length + 1 ≤ 3 := add_le3 hlen h4 h2
      have hc4 : cur.length ≤ 4 := Nat.le_trans (hlen ▸ Nat.le_add_left _ _) h4
      obtain ⟨lv, ws, cv, rfl, hmv, hwl, hwa⟩ := hcur.at
      refine ex_setC (cx := L' + 1 + 1) (ev_subV (ev_local rfl rfl rfl) (evI_neg evI_const) (seqL (.head _)) (At.last (last_app _ _)) (by decide) (by decide)) ?x1 ?x2 ?x3 ?xk
      case x1 => exact rfl
      case x2 => exact rfl
      case x3 => exact rfl
      rintro v n ⟨rfl, rfl⟩
      have hmv' := mem_mid hN hmv
      refine ⟨oa, wa, (R, listOf (vsR ++ [Value.ref lv]).toArray c) :: (tl ++ base), .tail _ (.head _), doa, List.forall_mem_cons.mpr ⟨.head _, fun p hp => .tail _ (.tail _ hp)⟩, List.forall_mem_cons.mpr ⟨Nat.ne_of_gt hRa, fun p hp => ?_⟩, fun oa' doa' => ?_⟩
      · exact (List.mem_append.mp hp).elim (fun h => Nat.ne_of_gt (Nat.lt_trans hRa (hgt p h))) fun h => Nat.ne_of_lt (hlt p h)
      refine ex_append (P := Gr ((L' + 1 + 1, oa') :: (R, listOf (vsR ++ [Value.ref lv]).toArray c) :: (tl ++ base)) fun tl2 v => CvIn tl2 (mixB (bnd k vsR.length m) k) v (mixRow cur t)) (ev_local rfl rfl rfl) (.tail _ (.head _)) ?ap1 ?ap2
      case ap1 =>
        have mA : (L' + 1 + 1, oa') ∈ (L' + 1 + 1, oa') :: (R, listOf (vsR ++ [Value.ref lv]).toArray c) :: (tl ++ base) := .head _
        have mS : ∀ p ∈ tl ++ base, p ∈ (L' + 1 + 1, oa') :: (R, listOf (vsR ++ [Value.ref lv]).toArray c) :: (tl ++ base) := fun p hp => .tail _ (.tail _ hp)
        generalize (L' + 1 + 1, oa') :: (R, listOf (vsR ++ [Value.ref lv]).toArray c) :: (tl ++ base) = M at mA mS ⊢
        have hb1 : mixB (bnd k vsR.length m) k ≤ 67108864 := Nat.le_trans (bnd_le k m (i := vsR.length + 1) (j := 3) hj3) hbd
        have hx : ((cur.length - 1 : Nat) : Int) = (cur.length : Int) - 1 := Int.ofNat_sub (Nat.le_of_succ_le h2)
        refine (ev_tcomp (P := fun zs nx => ∃ tl2, Amd3 (nx = tl2 ++ M) (Abv M tl2) (All2 (PtIn tl2 (mixB (bnd k vsR.length m) k)) zs (mixRow cur t))) (ev_ty (bi_tuple W)) (ev_compR (n := cur.length - 1) (clo := _) (P0 := fun n => n = M) (fun i zs nx => ∃ tl2, Amd3 (nx = tl2 ++ M) (Abv M tl2) (All2 (PtIn tl2 (mixB (bnd k vsR.length m) k)) zs ((mixRow cur t).take i))) ?it (Nat.le_trans (Nat.sub_le _ _) (Nat.le_trans hc4 (by decide))) ?i0 ?tn ?fn rfl)).mono ?po
        case it =>
          rw [hx]
          exact ev_range1 (ev_ty (bi_range W)) (evI_sub (ev_lenV (ev_ty (bi_len W)) (ev_cell rfl mA doa' rfl rfl) (seqT (mS _ hmv')) hwl (Nat.le_trans hc4 (by decide))) evI_const)
        case i0 =>
          rintro n0 rfl
          exact ⟨[], rfl, Abv.nil, True.intro⟩
        case fn =>
          rintro D zs nx ⟨tl2, rfl, ab2, hz⟩ off
          rw [List.take_of_length_le (Nat.le_of_eq (mixRow_len t cur))] at hz
          exact ⟨D, zs, _, rfl, rfl, by rw [hz.len, mixRow_len]; exact Nat.le_trans (Nat.sub_le _ _) (Nat.le_trans hc4 (by decide)), tl2, rfl, ab2, hz⟩
        case po =>
          rintro v n ⟨D, zs, nx, rfl, rfl, hD, tl2, rfl, ab2, hz⟩
          exact ⟨(D, tupO zs.toArray 0) :: tl2, rfl, Abv.cons hD ab2, D, zs, 0, rfl, .head _, hz.mono fun _ _ h => h.mono fun p hp => .tail _ hp⟩
        case tn =>
          rintro i ti zs nx I oI Cc oC D m₂ hi ⟨tl2, rfl, ab2, hz⟩ hC hv off
          have hi1 : i + 1 < cur.length := Nat.add_lt_of_lt_sub hi
          have hi1' : i < 4 := Nat.lt_of_lt_of_le (Nat.lt_of_succ_lt hi1) hc4
          obtain ⟨p0, ep0⟩ : ∃ x, cur[i]? = some x := ⟨_, List.getElem?_eq_getElem (Nat.lt_of_succ_lt hi1)⟩
          obtain ⟨p1, ep1⟩ : ∃ x, cur[i + 1]? = some x := ⟨_, List.getElem?_eq_getElem hi1⟩
          obtain ⟨x0, e0, hp0⟩ := hwa.get' i _ ep0
          obtain ⟨x1, e1, hp1⟩ := hwa.get' (i + 1) _ ep1
          generalize hB : (I, oI) :: (Cc, oC) :: (D, LCg.lst zs) :: (tl2 ++ M) = B
          have hMB : ∀ p ∈ M, p ∈ B := fun p hp => hB ▸ .tail _ (.tail _ (.tail _ (mem_app hp)))
          have mC : (Cc, oC) ∈ B := hB ▸ .tail _ (.head _)
          have hNB : ∀ p ∈ tl ++ news, p ∈ B := fun p hp => hMB p (mS p (mem_mid hN hp))
          refine Ev.mono (P := Gr B fun tl3 v => PtIn tl3 (mixB (bnd k vsR.length m) k) v (mixP p0 p1 t)) ?ge ?gk
          case gk =>
            subst hB
            rintro v n ⟨tl3, rfl, ab3, hr⟩
            refine elt_gr off ab3 ⟨tl3 ++ tl2, (List.append_assoc _ _ _).symm, ab2.app (fun p hp q hq => ab3 p hp q (.tail _ (.tail _ (.tail _ hq)))), ?_⟩
            rw [List.take_add_one, mixRow_get t cur i p0 p1 ep0 ep1]
            exact All2.app (as' := [v]) (bs' := [_]) ⟨hr.mono fun p hp => mem_l hp, True.intro⟩ (hz.mono fun _ _ h => h.mono fun p hp => mem_app hp)
          case ge =>
            refine ev_callV (a := 108) (cost := 122) (vs := [x0, x1, vt]) ?f1 (fn_mixed W).2 ?f2 (mixed_con W B x0 x1 vt p0 p1 t _ k (hp0.mono hNB) (hp1.mono hNB) (ht.mono fun p hp => hNB p (mem_app hp)) hb1) (by decide) ?f4 ?f5 ?f6
            case f4 => exact rfl
            case f5 => exact fun _ => rfl
            case f6 => exact rfl
            case f1 => exact ev_fnC (fn_mixed W).1
            case f2 => exact evsV_cons (ev_subV (ev_cellC rfl (hMB _ mA) doa') (evI_of (ev_own mC hC hv)) (seqT (hNB _ hmv)) (At.of (Int.natCast_nonneg i) e0) ix_lo (ix_hi hi1' (by decide))) (evsV_cons (ev_subV (ev_cellC rfl (hMB _ mA) doa') (evI_add (evI_of (ev_own mC hC hv)) evI_const) (seqT (hNB _ hmv)) (At.of (Int.natCast_nonneg (i + 1)) e1) (ix_lo (i := i + 1)) (ix_hi (i := i + 1) (n := 5) (Nat.lt_succ_of_lt (Nat.lt_of_lt_of_le hi1 hc4)) (by decide))) (evsV_cons (ev_cellC rfl (hMB _ (mS _ (mem_app hT))) d2) evsV_nil))
      case ap2 =>
        rintro v m' ⟨tl2, rfl, ab2, hv⟩
        have hab : ∀ p ∈ tl2 ++ tl, R < p.1 := fun p hp => (List.mem_append.mp hp).elim (fun h => ab2 p h (R, listOf (vsR ++ [Value.ref lv]).toArray c) (.tail _ (.head _))) (hgt p)
        refine ⟨(L' + 1 + 1, oa') :: ((tl2 ++ tl) ++ base), vsR ++ [Value.ref lv], c, mem_app (.tail _ (.head _)), List.forall_mem_cons.mpr ⟨mem_app (.head _), fun p hp => ?_⟩, List.forall_mem_cons.mpr ⟨Nat.ne_of_lt hRa, fun p hp => ?_⟩, ?_, ex_nil ⟨(mixRow cur t).length, ?_, rfl, vsR ++ [Value.ref lv], v, done ++ [cur], mixRow cur t, c + 1, oa', _, tl2 ++ tl, rfl, doa', hab, ?_, ?_, ?_, rfl, ?_, ?_⟩⟩
        · rw [List.append_assoc] at hp
          exact (List.mem_append.mp hp).elim mem_l fun h => mem_app (.tail _ (.tail _ h))
        · exact (List.mem_append.mp hp).elim (fun h => Nat.ne_of_gt (hab p h)) fun h => Nat.ne_of_lt (hRb p h)
        · rw [List.length_append]
          exact Nat.le_trans hj3 (by decide)
        · rw [mixRow_len]
          exact Nat.sub_lt (Nat.le_of_succ_le h2) Nat.one_pos
        · rw [List.append_assoc]
          exact All2.app (as' := [_]) (bs' := [_]) ⟨(hv.le (bnd_le _ m (i := vsR.length + 1) (j := 3) hj3)).mono fun p hp => mem_l hp, True.intro⟩ (hall.mono fun _ _ k => k.mono fun p hp => mem_app hp)
        · rw [List.length_append, List.append_assoc]
          exact hv.mono fun p hp => mem_l hp
        · rw [List.append_assoc, ← hrow, rowsFrom_step t h2]
          rfl
        · rw [mixRow_len]
          exact Nat.le_sub_one_of_lt h2
        · rw [mixRow_len, List.length_append]
          exact (Nat.add_assoc _ 1 _).trans ((congrArg (vsR.length + ·) (Nat.add_sub_of_le (Nat.le_of_succ_le h2))).trans hlen)
    case hfin =>
      rintro n l' nx ⟨rfl, hc, vsR, v, done, cur, c, oa, wa, tl, rfl, doa, hgt, hall, hcur, hrow, rfl, hn, hlen⟩
      have h3 : cur.length = 1 := Nat.le_antisymm (Int.ofNat_le.mp (Int.not_lt.mp (of_decide_eq_false hc.symm))) hn
      rw [h3] at hrow
      refine Ex.sub (news' := (R, listOf (vsR ++ [v]).toArray c) :: (tl ++ news)) (ex_ret ((ev_local rfl rfl rfl).mono ?_)) (List.forall_mem_cons.mpr ⟨.head _, fun p hp => .tail _ (.tail _ (mem_mid hN hp))⟩)
      rintro v' n ⟨rfl, rfl⟩
      refine ⟨(R, listOf (vsR ++ [v]).toArray c) :: tl, vsR ++ [v], R, c, rfl, rfl, List.forall_mem_cons.mpr ⟨fun q hq => hRb q (hN q hq), fun p hp q hq => Nat.lt_trans (hRb q (hN q hq)) (hgt p hp)⟩, .head _, ?_⟩
      rw [← hrow]
      exact hall.mono fun _ _ k => k.mono fun p hp => .tail _ hp

end Mine

end
section
set_option linter.unusedVariables false
open PySem PySem.W PyProof.Rows PySem.Calls
set_option Elab.async false
set_option maxRecDepth 100000
set_option maxHeartbeats 1000000
namespace Mine
theorem at_con (W : Wx) (news) (vc vt : Value) (ps : List Pt) (t : Rat) (m k : Nat) (hp : CvIn news m vc ps) (ht : FrIn news vt k t) (h1 : 1 ≤ ps.length) (h4 : ps.length ≤ 4) (hbd : bnd k 3 m ≤ 67108864) :
    Con W.w W.mean W.mg W.mb 124 120 news [vc, vt] (Gr news fun tl r => PtIn (tl ++ news) (bnd k 3 m) r (atP t ps)) := by
  refine' con_of [(Str.ofString "curve", vc), (Str.ofString "t", vt)] (l := [(Str.ofString "t", vt), (Str.ofString "curve", vc)]) ?ho ?hcd ?hbind ?hloc ?h1 ?h2 ?h3 ?h4 rfl ?_
  case ho => k_is
  case hcd => k_is
  case hbind => exact rfl
  case hloc => exact rfl
  case h1 => exact rfl
  case h2 => exact rfl
  case h3 => exact rfl
  case h4 => decide
  intro C
  have hrow : (rowsL t ps).getLast? = some (atP.la2L (rowsL t ps)) := by
    unfold atP.la2L
    rw [List.getLastD_eq_getLast?]
    have : rowsL t ps ≠ [] := rowsFrom_ne t _ ps
    cases h : rowsL t ps with
    | nil => exact absurd h this
    | cons a r => simp [List.getLast?_cons]
  have hne := rowsL_mem h1 _ (List.mem_of_getLast? hrow)
  refine ex_ret (ev_sub 0 (P := Gr news fun tl r => CvIn (tl ++ news) (bnd k 3 m) r (atP.la2L (rowsL t ps))) (ev_sub (-1) (ev_callVV (fn_steps_of W).2 (ev_fn (fn_steps_of W).1 rfl rfl) (ev_local rfl rfl rfl) (ev_local rfl rfl rfl) (steps_w W _ _ _ _ _ _ _ hp ht h1 h4 hbd) (by decide)) (fun v n h => evI_neg evI_const) ?_ (by decide) (by decide)) (fun v n h => evI_const) ?_ (by decide) (by decide))
  · rintro v n ⟨tl, vs, R, c, rfl, rfl, ab, hm, ha⟩
    obtain ⟨x, hx, hxc⟩ := ha.last hrow
    exact ⟨R, vs, x, rfl, seqL (mem_l hm), At.last hx, tl, rfl, ab, hxc⟩
  · rintro v n ⟨tl, rfl, ab, hv⟩
    obtain ⟨r, vs, c, rfl, hm, _, ha⟩ := hv.at
    obtain ⟨x, hx, hxp⟩ := ha.get' 0 _ (hd_of hne)
    exact ⟨r, vs, x, rfl, seqT hm, At.of (by decide) hx, tl, rfl, ab, hxp⟩

end Mine

end
section
set_option linter.unusedVariables false
open PySem PySem.W PyProof.Rows PySem.Calls
set_option Elab.async false
set_option maxRecDepth 100000
set_option maxHeartbeats 1000000
namespace Mine
theorem PtsTake {n : Led} {m : Nat} {ys : List Value} {qs : List Pt} {i : Nat} {y : Value} {q : Pt} (h : All2 (PtIn n m) ys (qs.take i)) (hq : qs[i]? = some q) (hy : PtIn n m y q) : All2 (PtIn n m) (ys ++ [y]) (qs.take (i + 1)) := by
  rw [List.take_add_one, hq]
  exact All2.app (as' := [y]) (bs' := [q]) ⟨hy, True.intro⟩ h
theorem All2.full {α β : Type} {R : α → β → Prop} {as : List α} {bs : List β} {k : Nat} (h : All2 R as (bs.take k)) (hk : bs.length ≤ k) : All2 R as bs := by
  rwa [List.take_of_length_le hk] at h
section
variable {W : Wx} {room : Nat} {sc : Scope} {cl : List (Str × Addr)} {C : Cx W room sc cl} {l : Bnd} {news : Led}
/-- tuple([row[k] for row in ..]), of rows that the ledger bears -/
theorem ev_ends {iter : PySem.Expr} {x : Str} {px pos o p1 p2 p3 : Pos} {scope : Scope} {st : PySem.Expr} {vs : List Value} {B : Nat} {rows : List (List Pt)} {f : List Pt → Pt} {L0 : Led} (k : Int) (ha : All2 (CvIn L0 B) vs rows) (hne : ∀ r ∈ rows, ∀ us, All2 (PtIn L0 B) us r → ∃ y, At us k y ∧ PtIn L0 B y (f r)) (hz : vs.length ≤ 16384)
    (hit : Ev C C.env l news iter (fun v n => Som2 fun ax c => Amd3 (v = .ref ax) ((ax, listOf vs.toArray c) ∈ n) (n = (ax, listOf vs.toArray c) :: L0)))
    (hf : EvV C C.env l news (.Name (Str.ofString "tuple") o) (.type "tuple")) (hk : ∀ Cc n, EvI C (compEnvC scope [] Cc C.env) l n st k) (hlo : -(2 ^ 63) ≤ k) (hhi : k < 2 ^ 63)
    (hsub : ∀ r u, subscripted st false (.ref r) (.int k u) = operate [.ref r, .int k u] (getItem (.ref r) (.int k u)))
    (hkind : scope.kind = .function) (hl : ∀ Cc, (compEnvC scope [] Cc C.env).kindOf x = some .local) (hd : (x == ("__debug__" : Str)) = false)
    (hclos : closureFor scope C.env = pure []) (hcell : ∀ y ∈ scope.names, y.2 ≠ .cell) (hnames : ∀ y ∈ scope.names, y.2 = .local → scope.names.lookup y.1 = some .local) (hx : scope.names.lookup x = some .local)
    (hs : ∀ x, foldedSetIterable iter C.env x = pure x)
    (he : starEach [.ListComp (.Subscript (.Name x p2) st p3) [⟨.Name x px, iter, [], 0⟩] scope pos] C.env = (false, eval (.ListComp (.Subscript (.Name x p2) st p3) [⟨.Name x px, iter, [], 0⟩] scope pos) C.env) :: starEach [] C.env)
    (hst : eval (.Call (.Name (Str.ofString "tuple") o) [.ListComp (.Subscript (.Name x p2) st p3) [⟨.Name x px, iter, [], 0⟩] scope pos] [] p1) C.env = (do callWith p1 (← eval (.Name (Str.ofString "tuple") o) C.env) [] (backTo p1 (starEach [.ListComp (.Subscript (.Name x p2) st p3) [⟨.Name x px, iter, [], 0⟩] scope pos] C.env)) (backToKw p1 (keywordEach [] C.env)))) :
    Ev C C.env l news (.Call (.Name (Str.ofString "tuple") o) [.ListComp (.Subscript (.Name x p2) st p3) [⟨.Name x px, iter, [], 0⟩] scope pos] [] p1) (fun v n => Som2 fun D ys => Amd4 (v = .ref D) (n = (D, tupO (ys : List Value).toArray 0) :: L0) (AllLt D L0) (All2 (PtIn L0 B) ys (rows.map f))) := by
  refine (ev_tcomp (P := fun ys nx => Som2 fun ax c => nx = (ax, listOf vs.toArray c) :: L0 ∧ All2 (PtIn L0 B) ys (rows.map f)) hf (ev_compL (clo := []) (vs := vs) (P0 := fun ax c n => n = (ax, listOf vs.toArray c) :: L0) (fun ax c i ys nx => nx = (ax, listOf vs.toArray c) :: L0 ∧ All2 (PtIn L0 B) ys ((rows.map f).take i)) hit hz (fun ax c n0 e => ⟨e, True.intro⟩) (fun ax c i ys nx h => by rw [h.1]; exact .head _) ?_ ?_ hclos hcell hkind hnames hx hs) he hst).weak ?_
  · rintro ax c i v ys nx I oI Cc oC D m₂ hi ⟨rfl, hys⟩ hC hv off
    obtain ⟨row, hr, hcv⟩ := ha.get i v hi
    obtain ⟨r, us, c', rfl, hm, _, hus⟩ := hcv.at
    obtain ⟨y, hy, hyp⟩ := hne row (List.mem_of_getElem? hr) us hus
    refine (ev_subV (ev_own (.tail _ (.head _)) hC hv hkind (hl Cc) hd) (hk Cc _) (seqT (.tail _ (.tail _ (.tail _ (.tail _ hm))))) hy hlo hhi hsub).mono ?_
    rintro v n ⟨rfl, rfl⟩
    exact elt_pure off ⟨rfl, PtsTake hys (by rw [List.getElem?_map, hr]; rfl) hyp⟩
  · rintro ax c D ys nx ⟨rfl, hys⟩ off
    have hys := hys.full (by rw [List.length_map, ha.len]; exact Nat.le_refl _)
    exact ⟨D, ys, _, rfl, rfl, by rw [hys.len, List.length_map, ← ha.len]; exact hz, ax, c, rfl, hys⟩
  · rintro v n ⟨D, ys, nx, rfl, rfl, hD, ax, c, rfl, hys⟩
    refine ⟨(D, tupO ys.toArray 0) :: L0, fun p hp => ?_, D, ys, rfl, rfl, hD.2, hys⟩
    rcases List.mem_cons.mp hp with rfl | hp
    · exact .head _
    · exact .tail _ (.tail _ hp)
end
theorem EvV.weakL {W : Wx} {room : Nat} {sc : Scope} {cl : List (Str × Addr)} {C : Cx W room sc cl} {en : Env} {l : Bnd} {news : Led} {e : PySem.Expr} {r : Addr} {vs : List Value} {c : Nat} (h : EvV C en l news e (.ref r)) (hm : (r, listOf vs.toArray c) ∈ news) : Ev C en l news e (fun v n => Som2 fun ax c => Amd3 (v = .ref ax) ((ax, listOf vs.toArray c) ∈ n) (n = (ax, listOf vs.toArray c) :: news)) :=
  Ev.weak h fun v n ⟨e1, e2⟩ => by
    subst e1; subst e2
    refine ⟨(r, listOf vs.toArray c) :: n, fun p hp => ?_, r, c, rfl, .head _, rfl⟩
    rcases List.mem_cons.mp hp with rfl | hp
    · exact hm
    · exact hp
/-- two curves in a pair -/
def CvPair (news : Led) (B : Nat) (p1 p2 : List Pt) (tl : Led) (r : Value) : Prop := Som4 fun D v1 v2 c => Amd4 (r = .ref D) ((D, tupO #[v1, v2] c) ∈ tl) (CvIn (tl ++ news) B v1 p1) (CvIn (tl ++ news) B v2 p2)
theorem split_con (W : Wx) (news) (vc vt : Value) (ps : List Pt) (t : Rat) (m k : Nat) (hp : CvIn news m vc ps) (ht : FrIn news vt k t) (h1 : 1 ≤ ps.length) (h4 : ps.length ≤ 4) (hbd : bnd k 3 m ≤ 67108864) :
    Con W.w W.mean W.mg W.mb 124 125 news [vc, vt] (Gr news (CvPair news (bnd k 3 m) (splitL t ps) (splitR t ps))) := by
  refine' con_of [(Str.ofString "curve", vc), (Str.ofString "t", vt)] (l := [(Str.ofString "t", vt), (Str.ofString "curve", vc)]) ?ho ?hcd ?hbind ?hloc ?h1 ?h2 ?h3 ?h4 rfl ?_
  case ho => k_is
  case hcd => k_is
  case hbind => exact rfl
  case hloc => exact rfl
  case h1 => exact rfl
  case h2 => exact rfl
  case h3 => exact rfl
  case h4 => decide
  intro C
  refine ex_set (ev_callVV (fn_steps_of W).2 (ev_fn (fn_steps_of W).1 rfl rfl) (ev_local rfl rfl rfl) (ev_local rfl rfl rfl) (steps_w W _ _ _ _ _ _ _ hp ht h1 h4 hbd) (by decide)) rfl rfl ?_
  rintro v n ⟨tl, vs, R, c, rfl, rfl, ab, hm, ha⟩
  have hvl : vs.length ≤ 16384 := by
    rw [ha.len, rowsL_len h1]
    exact Nat.le_trans h4 (by decide)
  have hne := rowsL_mem (t := t) h1
  refine ex_ret (ev_tuple (P := fun us n => Som4 fun D1 D2 ys1 ys2 => Amd6 (us = [.ref D1, .ref D2]) (n = (D2, tupO (ys2 : List Value).toArray 0) :: (D1, tupO (ys1 : List Value).toArray 0) :: (tl ++ news)) (AllLt D1 (tl ++ news)) (AllLt D2 ((D1, tupO ys1.toArray 0) :: (tl ++ news))) (All2 (PtIn (tl ++ news) (bnd k 3 m)) ys1 (splitL t ps)) (All2 (PtIn ((D1, tupO ys1.toArray 0) :: (tl ++ news)) (bnd k 3 m)) ys2 (splitR t ps))) (evs_cons (ev_ends (f := hd2) (L0 := tl ++ news) 0 ha ?_ hvl ?_ (ev_ty (bi_tuple W)) (fun _ _ => evI_const) (by decide) (by decide) (by intro r u; with_unfolding_all rfl) rfl (fun _ => rfl) (by decide) rfl (by decide) (by decide) rfl (fun _ => rfl) rfl rfl) ?_) ?_)
  · intro r hr us hus
    obtain ⟨y, hy, hyp⟩ := hus.get' 0 _ (hd_of (hne r hr))
    exact ⟨y, At.of (by decide) hy, hyp⟩
  · refine (EvV.weakL (ev_local rfl rfl rfl) (mem_l hm))
  · rintro v n ⟨D1, ys1, rfl, rfl, hD1, h1⟩
    refine evs_cons (ev_ends (f := la2) (rows := (rowsL t ps).reverse) (vs := vs.reverse) (L0 := (D1, tupO ys1.toArray 0) :: (tl ++ news)) (-1) ((ha.mono fun a b h => h.mono fun p hp => .tail _ hp).rev) ?_ (by rw [List.length_reverse]; exact hvl) ?_ (ev_ty (bi_tuple W)) (fun _ _ => evI_neg evI_const) (by decide) (by decide) (by intro r u; with_unfolding_all rfl) rfl (fun _ => rfl) (by decide) rfl (by decide) (by decide) rfl (fun _ => rfl) rfl rfl) ?_
    · intro r hr us hus
      obtain ⟨y, hy, hyp⟩ := hus.last (la_of (hne r (List.mem_reverse.mp hr)))
      exact ⟨y, At.last hy, hyp⟩
    · refine (ev_revL (c := c) (vs := vs) (ev_local rfl rfl rfl) (evI_neg evI_const) (.tail _ (mem_l hm)) hvl (fun r i => ⟨_, by with_unfolding_all rfl⟩) (fun _ _ => rfl)).mono ?_
      rintro v n ⟨D, rfl, rfl, hD⟩
      exact ⟨D, 0, rfl, .head _, rfl⟩
    · rintro v n ⟨D2, ys2, rfl, rfl, hD2, h2⟩
      refine evs_nil.mono ?_
      rintro us n ⟨rfl, rfl⟩
      exact ⟨D1, D2, ys1, ys2, rfl, rfl, hD1, hD2, h1, h2⟩
  · rintro us n D ⟨D1, D2, ys1, ys2, rfl, rfl, hD1, hD2, h1, h2⟩ hD
    refine ⟨by simp, (D, tupO #[.ref D1, .ref D2] 0) :: (D2, tupO ys2.toArray 0) :: (D1, tupO ys1.toArray 0) :: tl, rfl, Abv.cons hD (Abv.cons hD2 (Abv.cons hD1 ab)), D, _, _, 0, rfl, .head _, ?_, ?_⟩
    · exact ⟨D1, ys1, 0, rfl, .tail _ (.tail _ (.head _)), h1.mono fun _ _ h => h.mono fun p hp => .tail _ (.tail _ (.tail _ hp))⟩
    · exact ⟨D2, ys2, 0, rfl, .tail _ (.head _), h2.mono fun _ _ h => h.mono fun p hp => .tail _ (.tail _ hp)⟩

end Mine

end
section
set_option linter.unusedVariables false
open PySem PySem.W PyProof.Rows PySem.Calls
set_option Elab.async false
set_option maxRecDepth 100000
set_option maxHeartbeats 1000000
namespace Mine
theorem splitL_len {t : Rat} {ps : List Pt} (h1 : 1 ≤ ps.length) : (splitL t ps).length = ps.length := by
  unfold splitL
  rw [List.length_map, rowsL_len h1]
noncomputable def partQ (t u : Rat) : Rat := Rat.divInt (t.num * u.den) (t.den * u.num)
theorem partQ_sm {t u : Rat} {m n : Nat} (h0 : 0 < u.num) (ht : Sm m t) (hu : Sm n u) : Sm (m + n) (partQ t u) :=
  sm_fr (Int.mul_pos (den_pos t) h0) (intBits_mul_le ht.1 hu.2) (intBits_mul_le ht.2 hu.1)
section
variable {W : Wx} {room : Nat} {sc : Scope} {cl : List (Str × Addr)} {C : Cx W room sc cl} {en : Env} {l : Bnd} {news : Led}
/-- one of a pair of curves -/
theorem ev_fstC {e st : PySem.Expr} {p : Pos} {n0 : Led} {B : Nat} {p1 p2 : List Pt} (he : Ev C en l news e (Gr n0 (CvPair n0 B p1 p2))) (hst : ∀ n, EvI C en l n st 0)
    (hs : ∀ r u, subscripted st false (.ref r) (.int 0 u) = operate [.ref r, .int 0 u] (getItem (.ref r) (.int 0 u))) : Ev C en l news (.Subscript e st p) (Gr n0 fun tl r => CvIn (tl ++ n0) B r p1) :=
  ev_sub 0 he (fun _ n _ => hst n) (fun v n ⟨tl, e1, ab, D, v1, v2, c, e2, hm, h1, h2⟩ => by
    subst e1; subst e2
    exact ⟨D, [v1, v2], v1, rfl, seqT (c := c) (mem_l hm), At.of (by decide) rfl, tl, rfl, ab, h1⟩) (by decide) (by decide) hs
theorem ev_sndC {e st : PySem.Expr} {p : Pos} {n0 : Led} {B : Nat} {p1 p2 : List Pt} (he : Ev C en l news e (Gr n0 (CvPair n0 B p1 p2))) (hst : ∀ n, EvI C en l n st 1)
    (hs : ∀ r u, subscripted st false (.ref r) (.int 1 u) = operate [.ref r, .int 1 u] (getItem (.ref r) (.int 1 u))) : Ev C en l news (.Subscript e st p) (Gr n0 fun tl r => CvIn (tl ++ n0) B r p2) :=
  ev_sub 1 he (fun _ n _ => hst n) (fun v n ⟨tl, e1, ab, D, v1, v2, c, e2, hm, h1, h2⟩ => by
    subst e1; subst e2
    exact ⟨D, [v1, v2], v2, rfl, seqT (c := c) (mem_l hm), At.of (by decide) rfl, tl, rfl, ab, h2⟩) (by decide) (by decide) hs
end
theorem app3 (a b c d : Led) : ((a ++ b) ++ c) ++ d = a ++ (b ++ (c ++ d)) := by rw [List.append_assoc, List.append_assoc]
theorem part_con (W : Wx) (news) (vc vt vu : Value) (ps : List Pt) (t u : Rat) (m k : Nat) (hp : CvIn news m vc ps) (ht : FrIn news vt k t) (hu : FrIn news vu k u) (h0 : 0 < u.num) (h1 : 1 ≤ ps.length) (h4 : ps.length ≤ 4) (hk : k + k ≤ 67108864) (hbd : bnd k 3 m ≤ 67108864) (hbd2 : bnd (k + k) 3 (bnd k 3 m) ≤ 67108864) :
    Con W.w W.mean W.mg W.mb 125 132 news [vc, vt, vu] (Gr news fun tl r => CvIn (tl ++ news) (bnd (k + k) 3 (bnd k 3 m)) r (splitR (partQ t u) (splitL u ps))) := by
  have hq := partQ_sm h0 ht.sm hu.sm
  refine' con_of [(Str.ofString "curve", vc), (Str.ofString "t", vt), (Str.ofString "u", vu)] (l := [(Str.ofString "u", vu), (Str.ofString "t", vt), (Str.ofString "curve", vc)]) ?ho ?hcd ?hbind ?hloc ?h1 ?h2 ?h3 ?h4 rfl ?_
  case ho => k_is
  case hcd => k_is
  case hbind => exact rfl
  case hloc => exact rfl
  case h1 => exact rfl
  case h2 => exact rfl
  case h3 => exact rfl
  case h4 => decide
  intro C
  refine ex_set (ev_fstC (ev_callVV (fn_split W).2 (ev_fn (fn_split W).1 rfl rfl) (ev_local rfl rfl rfl) (ev_local rfl rfl rfl) (split_con W _ _ _ _ _ _ _ hp hu h1 h4 hbd) (by decide)) (fun _ => evI_const) (by intro r u; with_unfolding_all rfl)) rfl rfl ?_
  rintro v n ⟨tl, rfl, ab, hv⟩
  have ht2 : FrIn (tl ++ news) vt k t := ht.mono fun p hp => mem_app hp
  have hu2 : FrIn (tl ++ news) vu k u := hu.mono fun p hp => mem_app hp
  refine ex_ifF (P := fun n => n = tl ++ news) (tst_int (evI_num (ev_local rfl rfl rfl) hu2) evI_const (cmp_eq0 h0) rfl) ?_
  rintro n rfl
  refine ex_set (ev_callII (fn_fraction W).2 (ev_fn (fn_fraction W).1 rfl rfl) (evI_mul (evI_num (ev_local rfl rfl rfl) ht2) (evI_den (ev_local rfl rfl rfl) hu2) (IntMulOk.of_le ht.sm.1 hu.sm.2 (le_lim hk))) (evI_mul (evI_den (ev_local rfl rfl rfl) ht2) (evI_num (ev_local rfl rfl rfl) hu2) (IntMulOk.of_le ht.sm.2 hu.sm.1 (le_lim hk))) (fun t' u' => (fraction_con W _ _ _ t' u' (Int.mul_pos (den_pos t) h0)).mono fun r n h => fr_post hq h) (by decide)) rfl rfl ?_
  rintro vs n ⟨tl2, rfl, ab2, hs⟩
  refine ex_ret ((ev_sndC (ev_callVV (fn_split W).2 (ev_fn (fn_split W).1 rfl rfl) (ev_local rfl rfl rfl) (ev_local rfl rfl rfl) (split_con W _ _ _ _ _ _ _ (hv.mono fun p hp => mem_app hp) (hs.mono fun p hp => mem_l hp) (by rw [splitL_len h1]; exact h1) (by rw [splitL_len h1]; exact h4) hbd2) (by decide)) (fun _ => evI_const) (by intro r u; with_unfolding_all rfl)).mono ?_)
  rintro r n ⟨tl3, rfl, ab3, h3⟩
  exact ⟨(tl3 ++ tl2) ++ tl, (app3 _ _ _ _).symm, ab.app (ab2.app ab3), by show CvIn (((tl3 ++ tl2) ++ tl) ++ news) _ _ _; rw [app3]; exact h3⟩
theorem reversed_con (W : Wx) (news) (vc : Value) (ps : List Pt) (m : Nat) (hp : CvIn news m vc ps) (h4 : ps.length ≤ 4) :
    Con W.w W.mean W.mg W.mb 1 139 news [vc] (Gr news fun tl r => CvIn (tl ++ news) m r ps.reverse) := by
  obtain ⟨r, vs, c, rfl, hm, hl, ha⟩ := hp.at
  refine' con_of [(Str.ofString "curve", .ref r)] (l := [(Str.ofString "curve", .ref r)]) ?ho ?hcd ?hbind ?hloc ?h1 ?h2 ?h3 ?h4 rfl ?_
  case ho => k_is
  case hcd => k_is
  case hbind => exact rfl
  case hloc => exact rfl
  case h1 => exact rfl
  case h2 => exact rfl
  case h3 => exact rfl
  case h4 => decide
  intro C
  refine ex_ret ((ev_tupT (ev_ty (bi_tuple W)) (ev_revT (c := c) (vs := vs) (ev_local rfl rfl rfl) (evI_neg evI_const) hm (by rw [hl]; exact Nat.le_trans h4 (by decide)) (fun r i => ⟨_, by with_unfolding_all rfl⟩) (fun _ _ => rfl)) ?_).mono ?_)
  · rintro v n ⟨D, rfl, rfl, hD⟩
    exact ⟨D, _, 0, rfl, .head _⟩
  · rintro v n ⟨D, rfl, rfl, hD⟩
    exact ⟨[_], rfl, Abv.cons hD Abv.nil, D, _, 0, rfl, .head _, (ha.mono fun _ _ h => h.mono fun p hp => .tail _ hp).rev⟩

end Mine

end
section
set_option linter.unusedVariables false
open PySem PySem.W PyProof.Rows PySem.Calls
set_option Elab.async false
set_option maxRecDepth 100000
set_option maxHeartbeats 1000000
namespace Mine
/-- a list R that grows: its items, what was made beside it, what stood before -/
def AppSt (R : Addr) (ys : List Value) (c : Nat) (tl base n : Led) : Prop := (∀ p ∈ (R, listOf ys.toArray c) :: (tl ++ base), p ∈ n) ∧ (∀ p ∈ tl ++ base, p.1 ≠ R)
def AppEnd (its n : Led) (R : Addr) (ys : List Value) (c : Nat) (tl base : Led) (Q : Bnd → Value → Led → Prop) (l : Bnd) (m : Led) : Prop :=
  Som2 fun v tl2 => Amd3 ((∀ p ∈ (R, listOf (ys ++ [v]).toArray (c + 1)) :: (tl2 ++ (its ++ (tl ++ base))), p ∈ m)) (Abv (its ++ n) tl2) (Q l v tl2)
section
variable {W : Wx} {room : Nat} {sc : Scope} {cl : List (Str × Addr)} {C : Cx W room sc cl} {en : Env} {l : Bnd} {news : Led}
theorem ex_appL {pl : Sem Bool} {x : Str} {e : PySem.Expr} {p1 p2 p3 p4 : Pos} {its n : Led} {R : Addr} {ys : List Value} {c : Nat} {tl base : Led} {Q : Bnd → Value → Led → Prop} {Rr : Value → Led → Prop} (hS : AppSt R ys c tl base n) (hap : Apart its n) (hz : ys.length ≤ 16384) (hx : EvV C C.env l (its ++ n) (.Name x p1) (.ref R)) (he : Ev C C.env l (its ++ n) e (Gr (its ++ n) fun tl2 v => Q l v tl2))
    (he1 : starEach [e] C.env = (false, eval e C.env) :: starEach [] C.env := by rfl)
    (hme : eval (.Call (.Attribute (.Name x p1) (Str.ofString "append") p2) [e] [] p3) C.env = (do
      let ov ← eval (.Name x p1) C.env
      standAt p2.atName
      let (f, first) ← holding [ov] (getMethod ov (Str.ofString "append") pl)
      callWith p3 f first (backTo p3 (starEach [e] C.env)) []) := by rfl)
    (hi : interactive C.env = false := by rfl) (hs : swapsWith (.Call (.Attribute (.Name x p1) (Str.ofString "append") p2) [e] [] p3) none p4.line C.env = pure false := by rfl) :
    Ex C C.env l (its ++ n) [.Expr (.Call (.Attribute (.Name x p1) (Str.ofString "append") p2) [e] [] p3) p4] Rr (AppEnd its n R ys c tl base Q) := by
  have hRn : (R, listOf ys.toArray c) ∈ n := hS.1 _ (.head _)
  refine ex_append hx (mem_app hRn) he ?_ he1 hme hi hs
  rintro v m ⟨tl2, rfl, ab2, hq⟩
  refine ⟨tl2 ++ (its ++ (tl ++ base)), ys, c, mem_app (mem_app hRn), ?_, ?_, hz, ex_nil ⟨v, tl2, fun _ h => h, ab2, hq⟩⟩
  · intro p hp
    rcases List.mem_append.mp hp with hp | hp
    · exact mem_l hp
    · rcases List.mem_append.mp hp with hp | hp
      · exact mem_app (mem_l hp)
      · exact mem_app (mem_app (hS.1 p (.tail _ hp)))
  · intro p hp
    rcases List.mem_append.mp hp with hp | hp
    · exact Nat.ne_of_gt (ab2 p hp _ (mem_app hRn))
    · rcases List.mem_append.mp hp with hp | hp
      · exact fun e => hap p hp _ hRn e.symm
      · exact hS.2 p hp
/-- a loop whose turns each append one item -/
theorem ex_forApp {β : Type} {target iter : PySem.Expr} {body : List Stmt} {p : Pos} {ss : List Stmt} {Rr : Value → Led → Prop} {N : Bnd → Led → Prop} (Rel : Led → Value → β → Prop) (mono : ∀ n n' v b, (∀ p ∈ n, p ∈ n') → Rel n v b → Rel n' v b) (qs : List β) (xs : List Itm) (K : Led) (R : Addr) (ys0 : List Value) (c0 : Nat) (L : Bnd → Prop)
    (hI : Itr C l ((R, listOf ys0.toArray c0) :: news) iter target xs K) (hK : ∀ p ∈ K, p ∈ news) (hR : ∀ p ∈ news, p.1 ≠ R) (hL : L l) (h0 : All2 (Rel news) ys0 (qs.take ys0.length)) (hlen : qs.length = ys0.length + xs.length)
    (turn : ∀ ext i a b l' n its ys c tl, xs[i]? = some a → qs[ys0.length + i]? = some b → L l' → ys.length = ys0.length + i → AppSt R ys c tl (ext ++ news) n → Apart its n → Trn C l' (its ++ n) target a body Rr (AppEnd its n R ys c tl (ext ++ news) fun l'' v tl2 => L l'' ∧ Rel tl2 v b))
    (fin : ∀ l' ys c tl, L l' → All2 (Rel (tl ++ news)) ys qs → Abv news tl → (∀ p ∈ tl ++ news, p.1 ≠ R) → Ex C C.env l' ((R, listOf ys.toArray c) :: (tl ++ news)) ss Rr N)
    (hs : ∀ x, foldedSetIterable iter C.env x = pure x := by intro _; rfl) : Ex C C.env l ((R, listOf ys0.toArray c0) :: news) (.For target iter body [] p :: ss) Rr N := by
  refine ex_for xs K (fun ext i l' n => Abv ((R, listOf ys0.toArray c0) :: news) ext ∧ L l' ∧ Som3 fun ys c tl => Amd4 (ys.length = ys0.length + i) (AppSt R ys c tl (ext ++ news) n) (Abv (ext ++ news) tl) (All2 (Rel (tl ++ (ext ++ news))) ys (qs.take (ys0.length + i)))) hI ?_ ?_ ?_ ?_ hs
  · intro ext hab
    refine ⟨hab, hL, ys0, c0, [], rfl, ⟨fun p hp => ?_, fun p hp => ?_⟩, Abv.nil, h0.mono fun _ _ h => mono _ _ _ _ (fun p hp => mem_app hp) h⟩
    · rcases List.mem_cons.mp hp with rfl | hp
      · exact mem_app (.head _)
      · rcases List.mem_append.mp (show p ∈ ext ++ news from hp) with hp | hp
        · exact mem_l hp
        · exact mem_app (.tail _ hp)
    · rcases List.mem_append.mp (show p ∈ ext ++ news from hp) with hp | hp
      · exact Nat.ne_of_gt (hab p hp _ (.head _))
      · exact hR p hp
  · rintro ext i l' n ⟨_, _, ys, c, tl, _, hS, _, _⟩ p hp
    refine hS.1 p (.tail _ (mem_app ?_))
    rcases List.mem_append.mp hp with hp | hp
    · exact mem_l hp
    · exact mem_app (hK p hp)
  · rintro ext i a l' n its ha ⟨hab, hl, ys, c, tl, hy, hS, hab2, hall⟩ hap
    have hi : i < xs.length := (List.getElem?_eq_some_iff.mp ha).1
    obtain ⟨b, hb⟩ : ∃ b, qs[ys0.length + i]? = some b := ⟨_, List.getElem?_eq_getElem (by omega)⟩
    intro v E Q s pe hav F Nw r k
    refine turn ext i a b l' n its ys c tl ha hb hl hy hS hap v E Q s pe hav F Nw r ?_
    rintro l'' m h' tk' F' N' ⟨w, tl2, hm, ab2, hl2, hrel⟩
    refine k l'' m h' tk' F' N' ⟨(R, listOf (ys ++ [w]).toArray (c + 1)) :: ((tl2 ++ tl) ++ (ext ++ news)), fun p hp => ?_, fun p hp => ?_, fun p hp q hq => ?_, hab, hl2, ys ++ [w], c + 1, tl2 ++ tl, ?_, ⟨fun _ h => h, fun p hp => ?_⟩, ?_, ?_⟩
    · exact hm p (.tail _ (mem_app (mem_l hp)))
    · rcases List.mem_cons.mp hp with rfl | hp
      · exact hm _ (.head _)
      · rw [List.append_assoc] at hp
        rcases List.mem_append.mp hp with hp | hp
        · exact hm p (.tail _ (mem_l hp))
        · exact hm p (.tail _ (mem_app (mem_app hp)))
    · rcases List.mem_cons.mp hq with rfl | hq
      · exact hap p hp (R, listOf ys.toArray c) (hS.1 _ (.head _))
      · rw [List.append_assoc] at hq
        rcases List.mem_append.mp hq with hq | hq
        · exact Nat.ne_of_gt (ab2 q hq p (mem_l hp))
        · exact hap p hp q (hS.1 _ (.tail _ hq))
    · rw [List.length_append, hy]; rfl
    · rw [List.append_assoc] at hp
      rcases List.mem_append.mp hp with hp | hp
      · exact Nat.ne_of_gt (ab2 p hp (R, listOf ys.toArray c) (mem_app (hS.1 _ (.head _))))
      · exact hS.2 p hp
    · exact hab2.app fun p hp q hq => ab2 p hp q (mem_app (hS.1 _ (.tail _ hq)))
    · rw [← Nat.add_assoc, List.take_add_one, hb, List.append_assoc]
      exact All2.app (as' := [w]) (bs' := [b]) ⟨mono _ _ _ _ (fun p hp => mem_l hp) hrel, True.intro⟩ (hall.mono fun _ _ h => mono _ _ _ _ (fun p hp => mem_app hp) h)
  · rintro ext l' n ⟨hab, hl, ys, c, tl, hy, hS, hab2, hall⟩
    rw [← hlen, List.take_of_length_le (Nat.le_refl _)] at hall
    have hab' : Abv news ext := hab.sub fun p hp => .tail _ hp
    rw [← List.append_assoc] at hall
    have hS' := hS
    unfold AppSt at hS'
    rw [← List.append_assoc] at hS'
    refine Ex.sub (fin l' ys c (tl ++ ext) hl hall (hab'.app hab2) hS'.2) hS'.1
end

end Mine

end
section
set_option linter.unusedVariables false
open PySem PySem.W PyProof.Rows PySem.Calls
set_option Elab.async false
set_option maxRecDepth 100000
set_option maxHeartbeats 1000000
namespace Mine
theorem rng_get {a : Int} {n i : Nat} {x : Itm} (h : (rngItems a n)[i]? = some x) : i < n ∧ x = .tok fun t => .int (a + (i : Int)) t := by
  unfold rngItems at h
  rw [List.getElem?_map, Option.map_eq_some_iff] at h
  obtain ⟨j, hj, e⟩ := h
  obtain ⟨hlt, e2⟩ := List.getElem?_eq_some_iff.mp hj
  rw [List.getElem_range] at e2
  subst e2
  exact ⟨by simpa using hlt, e.symm⟩
theorem rng_len {a : Int} {n : Nat} : (rngItems a n).length = n := by simp [rngItems]
/-- a name within one loop's turn -/
theorem look_head {l : Bnd} {x : Str} {v : Value} : look ((x, v) :: l) x = some v := by
  rw [← look_set]; simp
theorem look_tail {l : Bnd} {x y : Str} {v : Value} (h : (y == x) = false) : look ((x, v) :: l) y = look l y := by
  unfold look
  rw [List.lookup_cons, h]
noncomputable def raiseMid (ps : List Pt) (j : Nat) : Pt := mixP (ps.getD (j + 1) Z2) (ps.getD j Z2) (Rat.divInt (1 + (j : Int)) (ps.length : Int))
noncomputable def raisedP (ps : List Pt) : List Pt := (hd2 ps :: (List.range (ps.length - 1)).map (raiseMid ps)) ++ [la2 ps]
theorem getD_of {ps : List Pt} {i : Nat} (h : i < ps.length) : ps[i]? = some (ps.getD i Z2) := by
  rw [List.getD_eq_getElem?_getD, List.getElem?_eq_getElem h]; rfl
theorem mids_get {ps : List Pt} {i : Nat} {b : Pt} (h : (hd2 ps :: (List.range (ps.length - 1)).map (raiseMid ps))[1 + i]? = some b) : b = raiseMid ps i := by
  rw [Nat.add_comm, List.getElem?_cons_succ, List.getElem?_map, Option.map_eq_some_iff] at h
  obtain ⟨j, hj, e⟩ := h
  obtain ⟨hlt, e2⟩ := List.getElem?_eq_some_iff.mp hj
  rw [List.getElem_range] at e2
  subst e2
  exact e.symm
theorem ith_sm (i d : Nat) (hi : i ≤ 3) (hd : d ≤ 3) (h0 : 0 < d) : Sm 2 (Rat.divInt (i : Int) (d : Int)) := by
  refine sm_fr (by omega) ?_ ?_
  · rcases i with _ | _ | _ | _ | i
    all_goals first | decide | omega
  · rcases d with _ | _ | _ | _ | d
    all_goals first | decide | omega
theorem raised_con (W : Wx) (news) (vc : Value) (ps : List Pt) (m : Nat) (hp : CvIn news m vc ps) (h2 : 2 ≤ ps.length) (h3 : ps.length ≤ 3) (hb : mixB m 2 ≤ 67108864) :
    Con W.w W.mean W.mg W.mb 123 146 news [vc] (Gr news fun tl r => CvIn (tl ++ news) (mixB m 2) r (raisedP ps)) := by
  obtain ⟨rc, vs, cc, rfl, hm, hl, ha⟩ := hp.at
  obtain ⟨x0, hx0, hp0⟩ := ha.get' 0 _ (hd_of (r := ps) (by rintro rfl; simp at h2))
  obtain ⟨xl, hxl, hpl⟩ := ha.last (la_of (r := ps) (by rintro rfl; simp at h2))
  have hvl : vs.length ≤ 16384 := by rw [hl]; exact Nat.le_trans h3 (by decide)
  have hdeg : ((ps.length : Int) - 1 + 1) = 1 + ((ps.length - 1 : Nat) : Int) := by omega
  have hdeg2 : ((ps.length : Int) - 1 + 1) = (ps.length : Int) := by omega
  have hgt : cmpI .Gt ((ps.length : Int) - 1) 2 = some false := congrArg some (decide_eq_false (by omega))
  refine' con_of [(Str.ofString "curve", .ref rc)] (l := [(Str.ofString "curve", .ref rc)]) ?ho ?hcd ?hbind ?hloc ?h1 ?h2 ?h3 ?h4 rfl ?_
  case ho => k_is
  case hcd => k_is
  case hbind => exact rfl
  case hloc => exact rfl
  case h1 => exact rfl
  case h2 => exact rfl
  case h3 => exact rfl
  case h4 => decide
  intro C
  refine ex_set (evI_sub (ev_lenV (ev_ty (bi_len W)) (ev_local rfl rfl rfl) (seqT hm) hl (hl ▸ hvl)) evI_const) rfl rfl ?_
  rintro v n ⟨⟨td, rfl⟩, rfl⟩
  refine ex_ifF (P := fun n' => n' = n) (tst_int (evI_of (ev_local rfl rfl rfl)) evI_const hgt rfl) ?_
  rintro n rfl
  refine ex_set (ev_list (P := fun us n' => us = [x0] ∧ n' = n) (post := fun v n' => ∃ R, Amd3 (v = .ref R) (n' = (R, listOf [x0].toArray 0) :: n) (AllLt R n)) (evs_cons (ev_subV (k := 0) (ev_local rfl rfl rfl) evI_const (seqT hm) (At.of (by decide) hx0) (by decide) (by decide)) ?_) ?_) rfl rfl ?_
  · rintro v n ⟨rfl, rfl⟩
    refine evs_nil.mono ?_
    rintro us n ⟨rfl, rfl⟩
    exact ⟨rfl, rfl⟩
  · rintro us n' D ⟨rfl, rfl⟩ hD
    exact ⟨by simp, D, rfl, rfl, hD⟩
  rintro v n' ⟨R, rfl, rfl, hR⟩
  refine ex_forApp (fun n v b => PtIn n (mixB m 2) v b) (fun n n' v b hs h => h.mono hs) (hd2 ps :: (List.range (ps.length - 1)).map (raiseMid ps)) (rngItems 1 (ps.length - 1)) [] R [x0] 0 (fun l' => look l' (Str.ofString "curve") = some (.ref rc) ∧ look l' (Str.ofString "found") = some (.ref R) ∧ look l' (Str.ofString "degree") = some (.int ((ps.length : Int) - 1) td))
    (itr_range (ev_range2 (ev_ty (bi_range W)) evI_const (evI_add (evI_of (ev_local rfl rfl rfl)) evI_const)) hdeg (by decide) (by decide) (by omega)) (fun _ h => nomatch h) (fun p hp => Nat.ne_of_lt (ktn_ltOf hR p hp)) ⟨rfl, rfl, rfl⟩ ⟨hp0.le (mixB_le _ _), True.intro⟩ (by rw [rng_len, List.length_cons, List.length_map, List.length_range]; exact Nat.add_comm _ _) ?_ ?_
  · rintro ext i a b l' k its ys c tl hi hb' ⟨l1, l2, l3⟩ hy hS hap
    obtain ⟨hlt, rfl⟩ := rng_get hi
    have hbe := mids_get hb'
    subst hbe
    obtain ⟨y1, hy1, hq1⟩ := ha.get' (i + 1) _ (getD_of (ps := ps) (i := i + 1) (by omega))
    obtain ⟨y0, hy0, hq0⟩ := ha.get' i _ (getD_of (ps := ps) (i := i) (by omega))
    have hsub : ∀ p ∈ n, p ∈ its ++ k := fun p hp => mem_app (hS.1 p (.tail _ (mem_app (mem_app hp))))
    refine trn_tok rfl fun t => ?_
    refine ex_appL hS hap (by rw [hy]; show 1 + i ≤ 16384; omega) (ev_local ((look_tail rfl).trans l2) rfl rfl) ?_
    have hfr := ith_sm (1 + i) ps.length (by omega) h3 (by omega)
    refine ev_call (P := fun us k' => Som2 fun y tl2 => Amd4 (us = [y1, y0, y]) (k' = tl2 ++ (its ++ k)) (Abv (its ++ k) tl2) (FrIn tl2 y 2 (Rat.divInt (1 + (i : Int)) (ps.length : Int)))) (cost := 122) (ev_fn (fn_mixed W).1 rfl rfl) (fn_mixed W).2 (evs_cons (ev_subV (k := 1 + (i : Int)) (ev_local ((look_tail rfl).trans l1) rfl rfl) (evI_of (ev_local look_head rfl rfl)) (seqT (hsub _ hm)) (At.of (by omega) (by rw [show (1 + (i : Int)).toNat = i + 1 by omega]; exact hy1)) (by omega) (by omega)) ?_) ?_ (by decide)
    · rintro v k' ⟨rfl, rfl⟩
      refine evs_cons (ev_subV (k := 1 + (i : Int) - 1) (ev_local ((look_tail rfl).trans l1) rfl rfl) (evI_sub (evI_of (ev_local look_head rfl rfl)) evI_const) (seqT (hsub _ hm)) (At.of (by omega) (by rw [show (1 + (i : Int) - 1).toNat = i by omega]; exact hy0)) (by omega) (by omega)) ?_
      rintro v k' ⟨rfl, rfl⟩
      refine evs_cons (ev_callII (fn_fraction W).2 (ev_fn (fn_fraction W).1 rfl rfl) (evI_of (ev_local look_head rfl rfl)) (evI_add (evI_of (ev_local ((look_tail rfl).trans l3) rfl rfl)) evI_const) (fun t' u' => (fraction_con W _ _ _ t' u' (by rw [hdeg2]; omega)).mono fun r n' h => fr_post (q := Rat.divInt (1 + (i : Int)) (ps.length : Int)) (m := 2) (by rw [show (1 + (i : Int)) = ((1 + i : Nat) : Int) by omega]; exact hfr) (by rw [hdeg2] at h; exact h)) (by decide)) ?_
      rintro y k' ⟨tl2, rfl, ab2, hy2⟩
      refine evs_nil.mono ?_
      rintro us k' ⟨rfl, rfl⟩
      exact ⟨y, tl2, rfl, rfl, ab2, hy2⟩
    · rintro us k' ⟨y, tl2, rfl, rfl, ab2, hfy⟩
      refine (mixed_con W _ _ _ _ _ _ _ m 2 (hq1.mono fun p hp => mem_app (hsub p hp)) (hq0.mono fun p hp => mem_app (hsub p hp)) (hfy.mono fun p hp => mem_l hp) hb).mono ?_
      rintro r k' ⟨tl3, rfl, ab3, hr⟩
      exact ⟨tl3 ++ tl2, (List.append_assoc _ _ _).symm, ab2.app ab3, ⟨(look_tail rfl).trans l1, (look_tail rfl).trans l2, (look_tail rfl).trans l3⟩, hr.mono fun p hp => mem_l hp⟩
  · rintro l' ys c tl ⟨l1, l2, l3⟩ hall ab hne
    have hyl := hall.len
    refine ex_ret (ev_addT (Pa := fun v k => ∃ D, Amd3 (v = .ref D) (k = (D, tupO ys.toArray 0) :: (R, listOf ys.toArray c) :: (tl ++ n)) (AllLt D ((R, listOf ys.toArray c) :: (tl ++ n)))) (Pb := fun v w k => Som2 fun D D2 => Amd5 (v = .ref D) (w = .ref D2) (k = (D2, tupO [xl].toArray 0) :: (D, tupO ys.toArray 0) :: (R, listOf ys.toArray c) :: (tl ++ n)) (AllLt D ((R, listOf ys.toArray c) :: (tl ++ n))) (AllLt D2 ((D, tupO ys.toArray 0) :: (R, listOf ys.toArray c) :: (tl ++ n)))) (ev_tupL (ev_ty (bi_tuple W)) (ev_local l2 rfl rfl) ?_) ?_ ?_)
    · rintro v k ⟨rfl, rfl⟩
      exact ⟨R, ys, c, rfl, .head _, by rw [hyl]; simp; omega, fun D hD => ⟨D, rfl, rfl, hD⟩⟩
    · rintro v k ⟨D, rfl, rfl, hD⟩
      refine ev_tuple (P := fun us k => us = [xl] ∧ k = (D, tupO ys.toArray 0) :: (R, listOf ys.toArray c) :: (tl ++ n)) (evs_cons (ev_subV (k := -1) (vs := vs) (ev_local l1 rfl rfl) (evI_neg evI_const) (seqT (.tail _ (.tail _ (mem_app hm)))) (At.last hxl) (by decide) (by decide)) ?_) ?_
      · rintro v k ⟨rfl, rfl⟩
        refine evs_nil.mono ?_
        rintro us k ⟨rfl, rfl⟩
        exact ⟨rfl, rfl⟩
      · rintro us k D2 ⟨rfl, rfl⟩ hD2
        exact ⟨by simp, D, D2, rfl, rfl, rfl, hD, hD2⟩
    · rintro v w k ⟨D, D2, rfl, rfl, rfl, hD, hD2⟩
      refine ⟨D, D2, ys, [xl], 0, 0, rfl, rfl, .tail _ (.head _), .head _, ?_, by simp, ?_, fun D3 hD3 => ?_⟩
      · intro e
        rw [e] at hyl
        simp at hyl
      · rw [hyl]; simp; omega
      · have hRab : Abv n ((R, listOf ys.toArray c) :: tl) := fun p hp q hq => by
          rcases List.mem_cons.mp hp with rfl | hp
          · exact ktn_ltOf hR q hq
          · exact ab p hp q hq
        refine ⟨(D3, tupO (ys ++ [xl]).toArray 0) :: (D2, tupO [xl].toArray 0) :: (D, tupO ys.toArray 0) :: (R, listOf ys.toArray c) :: tl, rfl, Abv.cons hD3 (Abv.cons hD2 (Abv.cons hD hRab)), D3, _, 0, rfl, .head _, ?_⟩
        refine All2.app (as' := [xl]) (bs' := [la2 ps]) ⟨(hpl.le (mixB_le _ _)).mono fun p hp => ?_, True.intro⟩ (hall.mono fun _ _ h => h.mono fun p hp => ?_)
        · exact mem_app (tl := _ :: _ :: _ :: _ :: tl) hp
        · exact .tail _ (.tail _ (.tail _ (.tail _ hp)))

end Mine

end
section
set_option linter.unusedVariables false
open PySem PySem.W PyProof.Rows PySem.Calls
set_option Elab.async false
set_option maxRecDepth 100000
set_option maxHeartbeats 1000000
namespace Mine
noncomputable def cubicP : Nat → List Pt → List Pt
  | 0, ps => ps
  | j + 1, ps => cubicP j (raisedP ps)
theorem raisedP_len {ps : List Pt} (h : 1 ≤ ps.length) : (raisedP ps).length = ps.length + 1 := by
  unfold raisedP
  rw [List.length_append, List.length_cons, List.length_map, List.length_range, List.length_singleton]
  omega
noncomputable def rbnd : Nat → Nat → Nat
  | 0, m => m
  | j + 1, m => rbnd j (mixB m 2)
theorem rbnd_le : ∀ j m, m ≤ rbnd j m
  | 0, m => Nat.le_refl _
  | j + 1, m => Nat.le_trans (mixB_le m 2) (rbnd_le j _)
theorem cub_lt {k n : Nat} (h : k = 4 - n) (h4 : n ≤ 4) : (n : Int) < 4 ↔ k ≠ 0 := by omega
theorem cub_st {j n : Nat} (h : j + 1 = 4 - n) (h4 : n ≤ 4) : n ≤ 3 ∧ j = 4 - (n + 1) := by omega
theorem as_cubic_con (W : Wx) (news) (vc : Value) (ps : List Pt) (m : Nat) (hp : CvIn news m vc ps) (h2 : 2 ≤ ps.length) (h4 : ps.length ≤ 4) (hb : rbnd (4 - ps.length) m ≤ 67108864) :
    Con W.w W.mean W.mg W.mb 124 153 news [vc] (Gr news fun tl r => CvIn (tl ++ news) (rbnd (4 - ps.length) m) r (cubicP (4 - ps.length) ps)) := by
  refine' con_of [(Str.ofString "curve", vc)] (l := [(Str.ofString "curve", vc)]) ?ho ?hcd ?hbind ?hloc ?h1 ?h2 ?h3 ?h4 rfl ?_
  case ho => k_is
  case hcd => k_is
  case hbind => exact rfl
  case hloc => exact rfl
  case h1 => exact rfl
  case h2 => exact rfl
  case h3 => exact rfl
  case h4 => decide
  intro C
  refine ex_while (fun k l' n => Som4 fun tl v qs mm => Amd9 (look l' (Str.ofString "curve") = some v) (n = tl ++ news) (Abv news tl) (CvIn n mm v qs) (2 ≤ qs.length) (qs.length ≤ 4) (k = 4 - qs.length) (cubicP k qs = cubicP (4 - ps.length) ps) (rbnd k mm = rbnd (4 - ps.length) m))
    (fun k l' c n => c = decide (k ≠ 0) ∧ Som4 fun tl v qs mm => Amd9 (look l' (Str.ofString "curve") = some v) (n = tl ++ news) (Abv news tl) (CvIn n mm v qs) (2 ≤ qs.length) (qs.length ≤ 4) (k = 4 - qs.length) (cubicP k qs = cubicP (4 - ps.length) ps) (rbnd k mm = rbnd (4 - ps.length) m)) (4 - ps.length)
    ⟨[], vc, ps, m, rfl, rfl, Abv.nil, hp, h2, h4, rfl, rfl, rfl⟩ ?_ ?_ ?_
  · rintro k l' n ⟨tl, v, qs, mm, e1, e2, ab, hv, q2, q4, e3, e4, e5⟩
    obtain ⟨rc, vs, cc, rfl, hm, hl, ha⟩ := hv.at
    refine (tst_int (x := qs.length) (c := decide (k ≠ 0)) (ev_lenV (ev_ty (bi_len W)) (ev_local e1 rfl rfl) (seqT hm) hl (Nat.le_trans q4 (by decide))) evI_const ?_ rfl).mono ?_
    · exact congrArg some (decide_eq_decide.mpr (cub_lt e3 q4))
    · rintro c n' ⟨rfl, rfl⟩
      exact ⟨rfl, tl, _, qs, mm, e1, e2, ab, hv, q2, q4, e3, e4, e5⟩
  · rintro k l' n ⟨hc, tl, v, qs, mm, e1, rfl, ab, hv, q2, q4, e3, e4, e5⟩
    have hk : k ≠ 0 := of_decide_eq_true hc.symm
    obtain ⟨j, rfl⟩ : ∃ j, k = j + 1 := Nat.exists_eq_succ_of_ne_zero hk
    obtain ⟨g1, g2⟩ := cub_st e3 q4
    have hlim : mixB mm 2 ≤ 67108864 := Nat.le_trans (rbnd_le j _) (by rw [← e5] at hb; exact hb)
    refine ex_set (ev_callV (ev_fn (fn_raised W).1 rfl rfl) (fn_raised W).2 (evsV_cons (ev_local e1 rfl rfl) evsV_nil) (raised_con W _ _ _ mm hv q2 g1 hlim) (by decide)) rfl rfl ?_
    rintro w n ⟨tl2, rfl, ab2, hw⟩
    have hrl := raisedP_len (ps := qs) (Nat.le_of_succ_le q2)
    exact ex_nil ⟨j, Nat.lt_succ_self _, tl2 ++ tl, w, raisedP qs, mixB mm 2, look_head, (List.append_assoc _ _ _).symm, ab.app ab2, hw, hrl ▸ Nat.le_succ_of_le q2, hrl ▸ Nat.succ_le_succ g1, hrl ▸ g2, e4, e5⟩
  · rintro k l' n ⟨hc, tl, v, qs, mm, e1, rfl, ab, hv, q2, q4, e3, e4, e5⟩
    have hk : k = 0 := by
      by_cases h : k = 0
      · exact h
      · rw [decide_eq_true h] at hc; cases hc
    subst hk
    rw [show cubicP 0 qs = qs from rfl] at e4
    rw [show rbnd 0 mm = mm from rfl] at e5
    subst e4; subst e5
    obtain ⟨rc, vs, cc, rfl, hm, hl, ha⟩ := hv.at
    refine ex_ret ((ev_tupT (ev_ty (bi_tuple W)) (ev_local e1 rfl rfl) ?_).mono ?_)
    · rintro v n ⟨rfl, rfl⟩
      exact ⟨rc, _, cc, rfl, hm⟩
    · rintro v n ⟨rfl, rfl⟩
      exact ⟨tl, rfl, ab, hv⟩

end Mine

end
section
set_option linter.unusedVariables false
open PySem PySem.W PyProof.Rows PySem.Calls
set_option Elab.async false
set_option maxRecDepth 100000
set_option maxHeartbeats 1000000
namespace Mine
section
variable {W : Wx} {room : Nat} {sc : Scope} {cl : List (Str × Addr)} {C : Cx W room sc cl} {l : Bnd} {news : Led}
/-- a, b = something that is no display of two names or calls -/
theorem ex_set2 {x y : Str} {e : PySem.Expr} {p1 p2 p3 p4 : Pos} {k0 : Nat} {ss : List Stmt} {P : Value → Led → Prop} {R : Value → Led → Prop} {N : Bnd → Led → Prop} (he : Ev C C.env l news e P) (hx : (envX C.cn sc C.L C.fa C.ccd cl).kindOf x = some .local) (hy : (envX C.cn sc C.L C.fa C.ccd cl).kindOf y = some .local)
    (hs1 : swapsWithSole [.Tuple [.Name x p1, .Name y p2] k0 p3] e p4.line C.env = pure false) (hs2 : swappedStores [.Tuple [.Name x p1, .Name y p2] k0 p3] e C.env = pure none)
    (k : ∀ v n, P v n → Som4 fun r c v1 v2 => Amd3 (v = .ref r) ((r, tupO #[v1, v2] c) ∈ n) (Ex C C.env ((y, v2) :: (x, v1) :: l) n ss R N)) : Ex C C.env l news (.Assign [.Tuple [.Name x p1, .Name y p2] k0 p3] e p4 :: ss) R N :=
  fun E Q s pe F Nw r kn => wpAny_execs_cons (Assign_Tuple (he E _ s F Nw fun v n h' tk F' N' p => by
    obtain ⟨rr, c, v1, v2, e1, hm, kk⟩ := k v n p
    subst e1
    refine unpackN_ F' N' (items := #[v1, v2]) ⟨_, (N' _ hm).1, rfl, c, rfl⟩ rfl rfl rfl fun h2 F2 N2 => ?_
    refine assignInOrder_cons (PyProof.Rows.assign_Name (st_op F2 N2 hx fun h3 F3 N3 => ?_))
    refine assignInOrder_cons (PyProof.Rows.assign_Name (st_op F3 N3 hy fun h4 F4 N4 => ?_))
    exact assignInOrder_nil (kk E Q _ pe F4 N4 r kn)) hs1 hs2)
end
theorem low_con (W : Wx) (news) (top bottom : Int) (t1 t2 : Tok) (m : Nat) (h0 : 0 < bottom) (hs : Sm m (Rat.divInt top bottom)) : Con W.w W.mean W.mg W.mb 120 202 news [.int top t1, .int bottom t2] (Gr news fun tl r => FrIn tl r m (Rat.divInt top bottom)) := by
  have hg := gcd_pos (a := top) h0
  refine' con_of [(Str.ofString "top", .int top t1), (Str.ofString "bottom", .int bottom t2)] (l := [(Str.ofString "bottom", .int bottom t2), (Str.ofString "top", .int top t1)]) ?ho ?hcd ?hbind ?hloc ?h1 ?h2 ?h3 ?h4 rfl ?_
  case ho => k_is
  case hcd => k_is
  case hbind => exact rfl
  case hloc => exact rfl
  case h1 => exact rfl
  case h2 => exact rfl
  case h3 => exact rfl
  case h4 => decide
  intro C
  refine ex_set2s (ev_tuple (P := fun vs n => (∃ u, vs = [.int (if top < 0 then -top else top) u, .int bottom t2]) ∧ n = news) (post := fun v n => Som2 fun D u => v = .ref D ∧ n = (D, tupO #[.int (if top < 0 then -top else top) u, .int bottom t2] 0) :: news) (evs_cons (evI_abs (ev_ty (bi_abs W)) (evI_of (ev_local rfl rfl rfl))) ?_) ?_) rfl rfl rfl rfl ?_
  · rintro v n ⟨⟨u, rfl⟩, rfl⟩
    refine (evsV_cons (ev_local rfl rfl rfl) evsV_nil).mono ?_
    rintro vs n ⟨rfl, rfl⟩
    exact ⟨⟨u, rfl⟩, rfl⟩
  · rintro vs n D ⟨⟨u, rfl⟩, rfl⟩ hD
    exact ⟨by simp, D, u, rfl, rfl⟩
  rintro v n ⟨D, u, rfl, rfl⟩
  refine ⟨D, 0, _, _, rfl, .head _, Ex.sub (news' := news) ?_ fun p hp => .tail _ hp⟩
  refine ex_while (fun k l' n => n = news ∧ look l' (Str.ofString "top") = some (.int top t1) ∧ look l' (Str.ofString "bottom") = some (.int bottom t2) ∧ Som4 fun f s u1 u2 => Amd6 (look l' (Str.ofString "one") = some (.int f u1)) (look l' (Str.ofString "other") = some (.int s u2)) (0 ≤ f) (0 ≤ s) (Int.gcd f s = Int.gcd (if top < 0 then -top else top) bottom) (k = s.toNat))
    (fun k l' c n => n = news ∧ look l' (Str.ofString "top") = some (.int top t1) ∧ look l' (Str.ofString "bottom") = some (.int bottom t2) ∧ Som4 fun f s u1 u2 => Amd7 (look l' (Str.ofString "one") = some (.int f u1)) (look l' (Str.ofString "other") = some (.int s u2)) (0 ≤ f) (0 ≤ s) (Int.gcd f s = Int.gcd (if top < 0 then -top else top) bottom) (k = s.toNat) (c = (s != 0))) bottom.toNat ⟨rfl, rfl, rfl, _, _, _, _, rfl, rfl, by split <;> omega, Int.le_of_lt h0, rfl, rfl⟩ ?_ ?_ ?_
  · rintro k l' n ⟨rfl, b1, b2, f, s, u1, u2, a1, a2, a3, a4, a5, a6⟩
    refine (tst_int (evI_of (ev_local a2 rfl rfl)) evI_const rfl rfl).mono ?_
    rintro c n ⟨rfl, rfl⟩
    exact ⟨rfl, b1, b2, f, s, u1, u2, a1, a2, a3, a4, a5, a6, rfl⟩
  · rintro k l' n ⟨rfl, b1, b2, f, s, u1, u2, a1, a2, a3, a4, a5, a6, a7⟩
    have hs : 0 < s := by
      rcases Int.lt_or_eq_of_le a4 with h | h
      · exact h
      · subst h; exact absurd a7 (by decide)
    obtain ⟨c1, c2, c3⟩ := cd_state a3 hs a5
    refine ex_set2s (ev_tuple (P := fun vs n' => (∃ u, vs = [.int s u2, .int (f.fmod s) u]) ∧ n' = n) (post := fun v n' => Som2 fun D u => v = .ref D ∧ n' = (D, tupO #[.int s u2, .int (f.fmod s) u] 0) :: n) (evs_cons (ev_local a2 rfl rfl) ?_) ?_) rfl rfl rfl rfl ?_
    · rintro v n ⟨rfl, rfl⟩
      refine evs_cons (evI_mod (evI_of (ev_local a1 rfl rfl)) (evI_of (ev_local a2 rfl rfl)) (ne_pos hs)) ?_
      rintro v n ⟨⟨u, rfl⟩, rfl⟩
      refine evs_nil.mono ?_
      rintro vs n ⟨rfl, rfl⟩
      exact ⟨⟨u, rfl⟩, rfl⟩
    · rintro vs n' D ⟨⟨u, rfl⟩, rfl⟩ hD
      exact ⟨by simp, D, u, rfl, rfl⟩
    rintro v n' ⟨D, u, rfl, rfl⟩
    refine ⟨D, 0, _, _, rfl, .head _, Ex.sub (news' := n) (ex_nil ⟨(f.fmod s).toNat, a6 ▸ cd_meas hs, rfl, b1, b2, s, f.fmod s, u2, u, rfl, rfl, c1, c2, c3, rfl⟩) fun p hp => .tail _ hp⟩
  · rintro k l' n ⟨rfl, b1, b2, f, s, u1, u2, a1, a2, a3, a4, a5, a6, a7⟩
    have hs : ¬ 0 < s := fun h => by
      have : (s != 0) = true := bne_iff_ne.mpr (ne_pos h)
      rw [this] at a7; cases a7
    have hf := cd_end a3 a4 hs a5
    subst hf
    refine ex_ret (ev_tuple (P := fun vs n' => (Som2 fun u1 u2 => vs = [.int (Rat.divInt top bottom).num u1, .int ((Rat.divInt top bottom).den : Int) u2]) ∧ n' = n) (evs_cons (evI_div (evI_of (ev_local b1 rfl rfl)) (evI_of (ev_local a1 rfl rfl)) (ne_pos hg) (by decide)) ?_) ?_)
    · rintro v n ⟨⟨u1, rfl⟩, rfl⟩
      refine evs_cons (evI_div (evI_of (ev_local b2 rfl rfl)) (evI_of (ev_local a1 rfl rfl)) (ne_pos hg) (by decide)) ?_
      rintro v n ⟨⟨u2, rfl⟩, rfl⟩
      refine evs_nil.mono ?_
      rintro vs n ⟨rfl, rfl⟩
      exact ⟨⟨u1, u2, by rw [num_fr h0, den_fr h0]⟩, rfl⟩
    · rintro vs n' D ⟨⟨u1, u2, rfl⟩, rfl⟩ hD
      exact ⟨by simp, [_], rfl, Abv.cons hD Abv.nil, D, u1, u2, 0, rfl, .head _, ‹Sm m _›⟩
/-- a raw fraction borne by the ledger -/
def PrIn (n : Led) (m : Nat) (v : Value) (q : Int × Int) : Prop := Som4 fun T t1 t2 c => Amd5 (v = .ref T) ((T, tupO #[.int q.1 t1, .int q.2 t2] c) ∈ n) (Builtin.Int.intBits q.1 ≤ m) (Builtin.Int.intBits q.2 ≤ m) (0 < q.2)
theorem PrIn.mono {n n' : Led} {m : Nat} {v : Value} {q : Int × Int} (h : PrIn n m v q) (hs : ∀ p ∈ n, p ∈ n') : PrIn n' m v q :=
  let ⟨T, t1, t2, c, e, hm, z1, z2, z3⟩ := h; ⟨T, t1, t2, c, e, hs _ hm, z1, z2, z3⟩
theorem FrIn.pr {n : Led} {m : Nat} {v : Value} {q : Rat} (h : FrIn n v m q) : PrIn n m v (q.num, (q.den : Int)) :=
  let ⟨l, t1, t2, c, e, hm, z⟩ := h; ⟨l, t1, t2, c, e, hm, z.1, z.2, den_pos q⟩
noncomputable def sumS (s : Int × Int) (p : Int × Int) : Int × Int := (s.1 * p.2 + p.1 * s.2, s.2 * p.2)
noncomputable def sumQ (qs : List (Int × Int)) : Int × Int := qs.foldl sumS (0, 1)
theorem sumS_rat {s p : Int × Int} (h1 : 0 < s.2) (h2 : 0 < p.2) : Rat.divInt (sumS s p).1 (sumS s p).2 = Rat.divInt s.1 s.2 + Rat.divInt p.1 p.2 := by
  rw [Rat.divInt_add_divInt _ _ (ne_pos h1) (ne_pos h2)]
  rfl
theorem sum_con (W : Wx) (news) (r : Addr) (o : Obj) (vs : List Value) (qs : List (Int × Int)) (m : Nat) (hm : (r, o) ∈ news) (hL : IsL o vs) (ha : All2 (PrIn news m) vs qs) (hb : 1 + qs.length * (m + 1) + m ≤ 67108864) :
    Con W.w W.mean W.mg W.mb 121 209 news [.ref r] (Gr news fun tl v => FrIn tl v (1 + qs.length * (m + 1)) (Rat.divInt (sumQ qs).1 (sumQ qs).2)) := by
  have hlen := ha.len
  have hbi : ∀ i, i ≤ qs.length → 1 + i * (m + 1) + m ≤ 67108864 := fun i hi => Nat.le_trans (Nat.add_le_add_right (Nat.add_le_add_left (Nat.mul_le_mul_right _ hi) _) _) hb
  refine' con_of [(Str.ofString "pairs", .ref r)] (l := [(Str.ofString "pairs", .ref r)]) ?ho ?hcd ?hbind ?hloc ?h1 ?h2 ?h3 ?h4 rfl ?_
  case ho => k_is
  case hcd => k_is
  case hbind => exact rfl
  case hloc => exact rfl
  case h1 => exact rfl
  case h2 => exact rfl
  case h3 => exact rfl
  case h4 => decide
  intro C
  refine ex_set2 (ev_tuple (P := fun vs n => (Som2 fun u1 u2 => vs = [.int 0 u1, .int 1 u2]) ∧ n = news) (post := fun v n => Som3 fun D u1 u2 => v = .ref D ∧ n = (D, tupO #[.int 0 u1, .int 1 u2] 0) :: news) (evs_cons evI_const ?_) ?_) rfl rfl rfl rfl ?_
  · rintro v n ⟨⟨u, rfl⟩, rfl⟩
    refine evs_cons evI_const ?_
    rintro v n ⟨⟨u2, rfl⟩, rfl⟩
    refine evs_nil.mono ?_
    rintro vs n ⟨rfl, rfl⟩
    exact ⟨⟨u, u2, rfl⟩, rfl⟩
  · rintro vs n D ⟨⟨u, u2, rfl⟩, rfl⟩ hD
    exact ⟨by simp, D, u, u2, rfl, rfl⟩
  rintro v n ⟨D, u, u2, rfl, rfl⟩
  refine ⟨D, 0, _, _, rfl, .head _, Ex.sub (news' := news) ?_ fun p hp => .tail _ hp⟩
  refine ex_for (vs.map .val) news (fun ext i l' n => Abv news ext ∧ n = ext ++ news ∧ Som3 fun s u1 u2 => Amd6 (s = (qs.take i).foldl sumS (0, 1)) (look l' (Str.ofString "top") = some (.int s.1 u1)) (look l' (Str.ofString "bottom") = some (.int s.2 u2)) (Builtin.Int.intBits s.1 ≤ 1 + i * (m + 1)) (Builtin.Int.intBits s.2 ≤ 1 + i * (m + 1)) (0 < s.2))
    (itr_list (ev_local rfl rfl rfl) hm hm hL) (fun ext hab => ⟨hab, rfl, (0, 1), _, _, rfl, rfl, rfl, by rw [Nat.zero_mul]; decide, by rw [Nat.zero_mul]; decide, by decide⟩) (fun ext i l' n ⟨_, e, _⟩ p hp => e ▸ hp) ?_ ?_
  · rintro ext i a l' n its hi ⟨hab, rfl, s, u1, u2, hs, e1, e2, b1, b2, h0⟩ hap
    rw [List.getElem?_map, Option.map_eq_some_iff] at hi
    obtain ⟨v, hv, rfl⟩ := hi
    obtain ⟨q, hq, hvq⟩ := ha.get i v hv
    have hlt : i < qs.length := (List.getElem?_eq_some_iff.mp hq).1
    obtain ⟨T, t1, t2, c, rfl, hT, q1, q2, q3⟩ := hvq
    have hbi' := hbi i (Nat.le_of_lt hlt)
    have hstep : (qs.take (i + 1)).foldl sumS (0, 1) = sumS s q := by
      rw [List.take_add_one, hq, hs, List.foldl_append]; rfl
    refine trn_pair rfl rfl (mem_app (mem_app hT)) ?_
    refine ex_set2s (ev_tuple (P := fun us n' => (Som2 fun w1 w2 => us = [.int (s.1 * q.2 + q.1 * s.2) w1, .int (s.2 * q.2) w2]) ∧ n' = its ++ (ext ++ news)) (post := fun v n' => Som3 fun D w1 w2 => v = .ref D ∧ n' = (D, tupO #[.int (s.1 * q.2 + q.1 * s.2) w1, .int (s.2 * q.2) w2] 0) :: (its ++ (ext ++ news))) (evs_cons (evI_add (evI_mul (evI_of (ev_local ((look_tail rfl).trans ((look_tail rfl).trans e1)) rfl rfl)) (evI_of (ev_local look_head rfl rfl)) (IntMulOk.of_le b1 q2 (le_lim hbi'))) (evI_mul (evI_of (ev_local ((look_tail rfl).trans look_head) rfl rfl)) (evI_of (ev_local ((look_tail rfl).trans ((look_tail rfl).trans e2)) rfl rfl)) (IntMulOk.of_le q1 b2 (le_lim' hbi')))) ?_) ?_) rfl rfl rfl rfl ?_
    · rintro v n ⟨⟨w1, rfl⟩, rfl⟩
      refine evs_cons (evI_mul (evI_of (ev_local ((look_tail rfl).trans ((look_tail rfl).trans e2)) rfl rfl)) (evI_of (ev_local look_head rfl rfl)) (IntMulOk.of_le b2 q2 (le_lim hbi'))) ?_
      rintro v n ⟨⟨w2, rfl⟩, rfl⟩
      refine evs_nil.mono ?_
      rintro us n ⟨rfl, rfl⟩
      exact ⟨⟨w1, w2, rfl⟩, rfl⟩
    · rintro us n' D ⟨⟨w1, w2, rfl⟩, rfl⟩ hD
      exact ⟨by simp, D, w1, w2, rfl, rfl⟩
    rintro v n' ⟨D, w1, w2, rfl, rfl⟩
    have hm1 : 1 + (i + 1) * (m + 1) = (1 + i * (m + 1) + m) + 1 := by rw [Nat.succ_mul]; omega
    refine ⟨D, 0, _, _, rfl, .head _, ex_nil ⟨ext ++ news, fun p hp => .tail _ (mem_l hp), fun p hp => .tail _ (mem_app hp), hap, hab, rfl, sumS s q, w1, w2, hstep.symm, look_head, (look_tail rfl).trans look_head, ?_, ?_, Int.mul_pos h0 q3⟩⟩
    · rw [hm1]
      have h1 := intBits_mul_le b1 q2
      have h2 := intBits_mul_le q1 b2
      rw [Nat.add_comm m] at h2
      have h3 := intBits_add_le h1 h2
      rwa [Nat.max_self] at h3
    · rw [hm1]
      exact Nat.le_succ_of_le (intBits_mul_le b2 q2)
  · rintro ext l' n ⟨hab, rfl, s, u1, u2, hs, e1, e2, b1, b2, h0⟩
    rw [List.length_map, hlen] at hs b1 b2
    rw [List.take_of_length_le (Nat.le_refl _)] at hs
    replace hs : s = sumQ qs := hs
    subst hs
    have hsm : Sm (1 + qs.length * (m + 1)) (Rat.divInt (sumQ qs).1 (sumQ qs).2) := sm_fr h0 b1 b2
    refine ex_ret ((ev_callII (fn_law_low W).2 (ev_fn (fn_law_low W).1 rfl rfl) (evI_of (ev_local e1 rfl rfl)) (evI_of (ev_local e2 rfl rfl)) (fun t u => low_con W _ _ _ t u _ h0 hsm) (by decide)).mono ?_)
    rintro r n ⟨tl2, rfl, ab2, hr⟩
    exact ⟨tl2 ++ ext, (List.append_assoc _ _ _).symm, hab.app ab2, hr.mono fun p hp => mem_l hp⟩

end Mine

end
section
set_option linter.unusedVariables false
open PySem PySem.W PyProof.Rows PySem.Calls
set_option Elab.async false
set_option maxRecDepth 100000
set_option maxHeartbeats 1000000
namespace Mine
section
variable {W : Wx} {room : Nat} {sc : Scope} {cl : List (Str × Addr)} {C : Cx W room sc cl} {en : Env} {l : Bnd} {news : Led}
theorem ex_appLP {pl : Sem Bool} {x : Str} {e : PySem.Expr} {p1 p2 p3 p4 : Pos} {its n pre : Led} {R : Addr} {ys : List Value} {c : Nat} {tl base : Led} {Q : Bnd → Value → Led → Prop} {Rr : Value → Led → Prop} (hS : AppSt R ys c tl base n) (hap : Apart its n) (abp : Abv (its ++ n) pre) (hz : ys.length ≤ 16384) (hx : EvV C C.env l (pre ++ (its ++ n)) (.Name x p1) (.ref R)) (he : Ev C C.env l (pre ++ (its ++ n)) e (Gr (pre ++ (its ++ n)) fun tl2 v => Q l v (tl2 ++ pre)))
    (he1 : starEach [e] C.env = (false, eval e C.env) :: starEach [] C.env := by rfl)
    (hme : eval (.Call (.Attribute (.Name x p1) (Str.ofString "append") p2) [e] [] p3) C.env = (do
      let ov ← eval (.Name x p1) C.env
      standAt p2.atName
      let (f, first) ← holding [ov] (getMethod ov (Str.ofString "append") pl)
      callWith p3 f first (backTo p3 (starEach [e] C.env)) []) := by rfl)
    (hi : interactive C.env = false := by rfl) (hs : swapsWith (.Call (.Attribute (.Name x p1) (Str.ofString "append") p2) [e] [] p3) none p4.line C.env = pure false := by rfl) :
    Ex C C.env l (pre ++ (its ++ n)) [.Expr (.Call (.Attribute (.Name x p1) (Str.ofString "append") p2) [e] [] p3) p4] Rr (AppEnd its n R ys c tl base Q) := by
  have hRn : (R, listOf ys.toArray c) ∈ n := hS.1 _ (.head _)
  refine ex_append hx (mem_app (mem_app hRn)) he ?_ he1 hme hi hs
  rintro v m ⟨tl2, rfl, ab2, hq⟩
  have ab3 : Abv (its ++ n) (tl2 ++ pre) := abp.app ab2
  refine ⟨(tl2 ++ pre) ++ (its ++ (tl ++ base)), ys, c, mem_app (mem_app (mem_app hRn)), ?_, ?_, hz, ex_nil ⟨v, tl2 ++ pre, fun _ h => h, ab3, hq⟩⟩
  · intro p hp
    rw [← List.append_assoc]
    rcases List.mem_append.mp hp with hp | hp
    · exact mem_l hp
    · rcases List.mem_append.mp hp with hp | hp
      · exact mem_app (mem_l hp)
      · exact mem_app (mem_app (hS.1 p (.tail _ hp)))
  · intro p hp
    rcases List.mem_append.mp hp with hp | hp
    · exact Nat.ne_of_gt (ab3 p hp _ (mem_app hRn))
    · rcases List.mem_append.mp hp with hp | hp
      · exact fun e => hap p hp _ hRn e.symm
      · exact hS.2 p hp
/-- displays that grow the ledger -/
def GrL (news : Led) (P : Led → List Value → Prop) (vs : List Value) (n : Led) : Prop := ∃ tl, Amd3 (n = tl ++ news) (Abv news tl) (P tl vs)
theorem evsg_nil {P : Led → List Value → Prop} (h : P [] []) : Evs C en l news [] (GrL news P) := evs_nil.mono fun vs n ⟨e1, e2⟩ => by
  subst e1; subst e2
  exact ⟨[], rfl, Abv.nil, h⟩
theorem evsg_cons {e : PySem.Expr} {es : List PySem.Expr} {P1 : Led → Value → Prop} {P : Led → List Value → Prop} (he : Ev C en l news e (Gr news P1)) (hs : ∀ tl v, Abv news tl → P1 tl v → Evs C en l (tl ++ news) es (GrL (tl ++ news) fun tl2 vs => P (tl2 ++ tl) (v :: vs))) (hst : starEach (e :: es) en = (false, eval e en) :: starEach es en := by rfl) : Evs C en l news (e :: es) (GrL news P) :=
  evs_cons he (fun v n ⟨tl, e1, ab, p⟩ => by
    subst e1
    exact (hs tl v ab p).mono fun vs n ⟨tl2, e2, ab2, p2⟩ => by
      subst e2
      exact ⟨tl2 ++ tl, (List.append_assoc _ _ _).symm, ab.app ab2, p2⟩) hst
theorem evsg_rel {β : Type} {Rel : Led → Value → β → Prop} (mono : ∀ n n' v b, (∀ p ∈ n, p ∈ n') → Rel n v b → Rel n' v b) {e : PySem.Expr} {es : List PySem.Expr} {b : β} {bs : List β} (he : ∀ n, Ev C en l n e (Gr n fun tl v => Rel tl v b)) (hs : ∀ n, Evs C en l n es (GrL n fun tl vs => All2 (Rel tl) vs bs)) (hst : starEach (e :: es) en = (false, eval e en) :: starEach es en := by rfl) : ∀ n, Evs C en l n (e :: es) (GrL n fun tl vs => All2 (Rel tl) vs (b :: bs)) :=
  fun n => evsg_cons (he n) (fun tl v ab p => (hs (tl ++ n)).mono fun vs n' ⟨tl2, e2, ab2, p2⟩ => ⟨tl2, e2, ab2, mono _ _ _ _ (fun p hp => mem_app hp) p, p2.mono fun _ _ h => mono _ _ _ _ (fun p hp => mem_l hp) h⟩) hst
theorem evsg_rel0 {β : Type} {Rel : Led → Value → β → Prop} : ∀ n, Evs C en l n [] (GrL n fun tl vs => All2 (Rel tl) vs []) := fun n => evsg_nil True.intro
/-- a list made -/
def LsIn {β : Type} (Rel : Led → Value → β → Prop) (bs : List β) (tl : Led) (v : Value) : Prop := Som3 fun D vs c => Amd3 (v = .ref D) ((D, listOf (vs : List Value).toArray c) ∈ tl) (All2 (Rel tl) vs bs)
theorem evg_list {β : Type} {Rel : Led → Value → β → Prop} (mono : ∀ n n' v b, (∀ p ∈ n, p ∈ n') → Rel n v b → Rel n' v b) {es : List PySem.Expr} {p : Pos} {bs : List β} (hz : bs.length ≤ 16384) (h : Evs C en l news es (GrL news fun tl vs => All2 (Rel tl) vs bs)) : Ev C en l news (.List es p) (Gr news (LsIn Rel bs)) :=
  ev_list h fun vs n D ⟨tl, e1, ab, ha⟩ hD => by
    subst e1
    exact ⟨by rw [ha.len]; exact hz, (D, listOf vs.toArray 0) :: tl, rfl, Abv.cons hD ab, D, vs, 0, rfl, .head _, ha.mono fun _ _ h => mono _ _ _ _ (fun p hp => .tail _ hp) h⟩
theorem LsIn.mono {β : Type} {Rel : Led → Value → β → Prop} (mono : ∀ n n' v b, (∀ p ∈ n, p ∈ n') → Rel n v b → Rel n' v b) {bs : List β} {n n' : Led} {v : Value} (hs : ∀ p ∈ n, p ∈ n') (h : LsIn Rel bs n v) : LsIn Rel bs n' v :=
  let ⟨D, vs, c, e, hm, ha⟩ := h; ⟨D, vs, c, e, hs _ hm, ha.mono fun _ _ h => mono _ _ _ _ hs h⟩
def IsI (_ : Led) (v : Value) (i : Int) : Prop := ∃ t, v = .int i t
theorem isI_mono : ∀ (n n' : Led) (v : Value) (b : Int), (∀ p ∈ n, p ∈ n') → IsI n v b → IsI n' v b := fun _ _ _ _ _ h => h
theorem ev_isI {e : PySem.Expr} {i : Int} (h : ∀ n, EvI C en l n e i) : ∀ n, Ev C en l n e (Gr n fun tl v => IsI tl v i) := fun n => (h n).mono fun v n' ⟨e1, e2⟩ => by
  subst e2
  exact ⟨[], rfl, Abv.nil, e1⟩
/-- a pair of ints made -/
theorem ev_pr {a b : PySem.Expr} {k : Nat} {p : Pos} {x y : Int} {m : Nat} (ha : EvI C en l news a x) (hb : EvI C en l news b y) (h1 : Builtin.Int.intBits x ≤ m) (h2 : Builtin.Int.intBits y ≤ m) (h0 : 0 < y)
    (hst : starEach [a, b] en = (false, eval a en) :: starEach [b] en := by rfl) (hst2 : starEach [b] en = (false, eval b en) :: starEach [] en := by rfl) : Ev C en l news (.Tuple [a, b] k p) (Gr news fun tl v => PrIn tl m v (x, y)) :=
  ev_tuple (P := fun vs n => (Som2 fun t u => vs = [.int x t, .int y u]) ∧ n = news) (evs_cons ha (fun v n ⟨⟨t, e1⟩, e2⟩ => by
    subst e1; subst e2
    exact evs_cons hb (fun v n ⟨⟨u, e3⟩, e4⟩ => by
      subst e3; subst e4
      exact evs_nil.mono fun vs n ⟨e5, e6⟩ => by subst e5; exact ⟨⟨t, u, rfl⟩, e6⟩) hst2) hst) fun vs n D ⟨⟨t, u, e1⟩, e2⟩ hD => by
    subst e1; subst e2
    exact ⟨Nat.le_of_ble_eq_true rfl, [_], rfl, Abv.cons hD Abv.nil, D, t, u, 0, rfl, .head _, h1, h2, h0⟩
end
noncomputable def binL : Nat → List Int
  | 0 => [1]
  | 1 => [1, 1]
  | 2 => [1, 2, 1]
  | _ => [1, 3, 3, 1]
noncomputable def ax (i : Nat) (p : Pt) : Rat := if i = 0 then p.1 else p.2
noncomputable def binC (d k : Nat) : Int := (binL d).getD k 0
/-- one term of the sum by powers -/
noncomputable def termQ (d i : Nat) (ps : List Pt) (t : Rat) (k : Nat) : Int × Int :=
  (binC d k * (ax i (ps.getD k Z2)).num * t.num ^ k * ((t.den : Int) - t.num) ^ (d - k), ((ax i (ps.getD k Z2)).den : Int) * (t.den : Int) ^ d)
noncomputable def termsQ (ps : List Pt) (t : Rat) (i : Nat) : List (Int × Int) := (List.range ps.length).map (termQ (ps.length - 1) i ps t)
noncomputable def axisR (ps : List Pt) (t : Rat) (i : Nat) : Rat := Rat.divInt (sumQ (termsQ ps t i)).1 (sumQ (termsQ ps t i)).2
noncomputable def lawAt (ps : List Pt) (t : Rat) : Pt := (axisR ps t 0, axisR ps t 1)
theorem binC_bits : ∀ d k, d ≤ 3 → Builtin.Int.intBits (binC d k) ≤ 2 := by
  intro d k hd
  have : ∀ x ∈ [0, 1, 2, (3 : Int)], Builtin.Int.intBits x ≤ 2 := by decide
  apply this
  rcases d with _ | _ | _ | _ | d
  all_goals first | omega | skip
  all_goals rcases k with _ | _ | _ | _ | k <;> simp [binC, binL]
theorem bin_len {d : Nat} (h : d ≤ 3) : (binL d).length = d + 1 := by
  rcases d with _ | _ | _ | _ | d
  all_goals first | rfl | omega
theorem binC_get {d k : Nat} (hd : d ≤ 3) (hk : k ≤ d) : (binL d)[k]? = some (binC d k) := by
  have := bin_len hd
  unfold binC
  rw [List.getD_eq_getElem?_getD, List.getElem?_eq_getElem (by omega)]; rfl

end Mine

end
section
set_option linter.unusedVariables false
open PySem PySem.W PyProof.Rows PySem.Calls
set_option Elab.async false
set_option maxRecDepth 100000
set_option maxHeartbeats 1000000
namespace Mine
noncomputable def termB (m k : Nat) : Nat := m + 6 * k + 7
theorem term_bits {i : Nat} {ps : List Pt} {t : Rat} {m k : Nat} (hp : ∀ j, Sm m (ax i (ps.getD j Z2))) (ht : Sm k t) (d j : Nat) (hd : d ≤ 3) (hj : j ≤ d) : Builtin.Int.intBits (binC d j * (ax i (ps.getD j Z2)).num) ≤ m + 2 ∧ Builtin.Int.intBits (t.num ^ j) ≤ 3 * k + 1 ∧ Builtin.Int.intBits (binC d j * (ax i (ps.getD j Z2)).num * t.num ^ j) ≤ m + 3 * k + 3 ∧ Builtin.Int.intBits ((t.den : Int) - t.num) ≤ k + 1 ∧ Builtin.Int.intBits (((t.den : Int) - t.num) ^ (d - j)) ≤ 3 * k + 4 ∧ Builtin.Int.intBits (termQ d i ps t j).1 ≤ termB m k ∧ Builtin.Int.intBits ((t.den : Int) ^ d) ≤ 3 * k + 1 ∧ Builtin.Int.intBits (termQ d i ps t j).2 ≤ termB m k ∧ 0 < (termQ d i ps t j).2 := by
  have g1 : k * j ≤ k * 3 := Nat.mul_le_mul_left _ (Nat.le_trans hj hd)
  have g2 : (k + 1) * (d - j) ≤ (k + 1) * 3 := Nat.mul_le_mul_left _ (by omega)
  have g3 : k * d ≤ k * 3 := Nat.mul_le_mul_left _ hd
  have h1 := intBits_mul_le (binC_bits d j hd) (hp j).1
  have h0 := intBits_pow_le ht.1 j
  have h2 := intBits_mul_le h1 h0
  have h3 := intBits_sub_le ht.2 ht.1
  rw [Nat.max_self] at h3
  have h4 := intBits_pow_le h3 (d - j)
  have h5 := intBits_mul_le h2 h4
  have h6 := intBits_pow_le ht.2 d
  have h7 := intBits_mul_le (hp j).2 h6
  unfold termB
  exact ⟨Nat.le_trans h1 (by omega), Nat.le_trans h0 (by omega), Nat.le_trans h2 (by omega), h3, Nat.le_trans h4 (by omega), Nat.le_trans h5 (by omega), Nat.le_trans h6 (by omega), Nat.le_trans h7 (by omega), Int.mul_pos (den_pos _) (Int.pow_pos (den_pos t))⟩
theorem ax_sm {n : Led} {m : Nat} {vs : List Value} {ps : List Pt} (h : All2 (PtIn n m) vs ps) (h1 : 1 ≤ m) (i j : Nat) : Sm m (ax i (ps.getD j Z2)) := by
  by_cases hj : j < ps.length
  · obtain ⟨v, _, l, v1, v2, c, _, _, f1, f2⟩ := h.get' j _ (getD_of hj)
    unfold ax
    split
    · exact f1.sm
    · exact f2.sm
  · have e : ps.getD j Z2 = Z2 := by rw [List.getD_eq_getElem?_getD, List.getElem?_eq_none (by omega)]; rfl
    rw [e]
    have : ax i Z2 = 0 := by unfold ax; split <;> rfl
    rw [this]
    exact Sm.le (m := 1) ⟨by decide, by decide⟩ h1
theorem binP_get {n : Led} {d : Nat} {ws : List Value} (h : All2 (IsI n) ws (binL d)) {k : Nat} (hd : d ≤ 3) (hk : k ≤ d) : Som2 fun x t => ws[k]? = some x ∧ x = .int (binC d k) t := by
  obtain ⟨x, hx, t, e⟩ := h.get' k _ (binC_get hd hk)
  exact ⟨x, t, hx, e⟩
section
variable {W : Wx} {room : Nat} {sc : Scope} {cl : List (Str × Addr)} {C : Cx W room sc cl} {en : Env} {l : Bnd} {news : Led}
noncomputable abbrev kI (i : Int) (k : Nat) (p : Pos) : PySem.Expr := .Constant (.int i) k p
theorem ls_mono : ∀ (n n' : Led) (v : Value) (b : List Int), (∀ p ∈ n, p ∈ n') → LsIn IsI b n v → LsIn IsI b n' v := fun _ _ _ _ hs h => h.mono isI_mono hs
theorem evk {i : Int} {k : Nat} {p : Pos} : ∀ n, Ev C en l n (kI i k p) (Gr n fun tl v => IsI tl v i) := ev_isI fun _ => evI_const
theorem ev_l1 {a1 : Int} {k1 : Nat} {p1 p : Pos} (e1 : starEach [kI a1 k1 p1] en = (false, eval (kI a1 k1 p1) en) :: starEach [] en) : ∀ n, Ev C en l n (.List [kI a1 k1 p1] p) (Gr n (LsIn IsI [a1])) :=
  fun n => evg_list isI_mono (Nat.le_of_ble_eq_true rfl) (evsg_rel isI_mono evk evsg_rel0 e1 n)
theorem ev_l2 {a1 a2 : Int} {k1 k2 : Nat} {p1 p2 p : Pos} (e1 : starEach [kI a1 k1 p1, kI a2 k2 p2] en = (false, eval (kI a1 k1 p1) en) :: starEach [kI a2 k2 p2] en) (e2 : starEach [kI a2 k2 p2] en = (false, eval (kI a2 k2 p2) en) :: starEach [] en) : ∀ n, Ev C en l n (.List [kI a1 k1 p1, kI a2 k2 p2] p) (Gr n (LsIn IsI [a1, a2])) :=
  fun n => evg_list isI_mono (Nat.le_of_ble_eq_true rfl) (evsg_rel isI_mono evk (evsg_rel isI_mono evk evsg_rel0 e2) e1 n)
theorem ev_l3 {a1 a2 a3 : Int} {k1 k2 k3 : Nat} {p1 p2 p3 p : Pos} (e1 : starEach [kI a1 k1 p1, kI a2 k2 p2, kI a3 k3 p3] en = (false, eval (kI a1 k1 p1) en) :: starEach [kI a2 k2 p2, kI a3 k3 p3] en) (e2 : starEach [kI a2 k2 p2, kI a3 k3 p3] en = (false, eval (kI a2 k2 p2) en) :: starEach [kI a3 k3 p3] en) (e3 : starEach [kI a3 k3 p3] en = (false, eval (kI a3 k3 p3) en) :: starEach [] en) : ∀ n, Ev C en l n (.List [kI a1 k1 p1, kI a2 k2 p2, kI a3 k3 p3] p) (Gr n (LsIn IsI [a1, a2, a3])) :=
  fun n => evg_list isI_mono (Nat.le_of_ble_eq_true rfl) (evsg_rel isI_mono evk (evsg_rel isI_mono evk (evsg_rel isI_mono evk evsg_rel0 e3) e2) e1 n)
theorem ev_l4 {a1 a2 a3 a4 : Int} {k1 k2 k3 k4 : Nat} {p1 p2 p3 p4 p : Pos} (e1 : starEach [kI a1 k1 p1, kI a2 k2 p2, kI a3 k3 p3, kI a4 k4 p4] en = (false, eval (kI a1 k1 p1) en) :: starEach [kI a2 k2 p2, kI a3 k3 p3, kI a4 k4 p4] en) (e2 : starEach [kI a2 k2 p2, kI a3 k3 p3, kI a4 k4 p4] en = (false, eval (kI a2 k2 p2) en) :: starEach [kI a3 k3 p3, kI a4 k4 p4] en) (e3 : starEach [kI a3 k3 p3, kI a4 k4 p4] en = (false, eval (kI a3 k3 p3) en) :: starEach [kI a4 k4 p4] en) (e4 : starEach [kI a4 k4 p4] en = (false, eval (kI a4 k4 p4) en) :: starEach [] en) : ∀ n, Ev C en l n (.List [kI a1 k1 p1, kI a2 k2 p2, kI a3 k3 p3, kI a4 k4 p4] p) (Gr n (LsIn IsI [a1, a2, a3, a4])) :=
  fun n => evg_list isI_mono (Nat.le_of_ble_eq_true rfl) (evsg_rel isI_mono evk (evsg_rel isI_mono evk (evsg_rel isI_mono evk (evsg_rel isI_mono evk evsg_rel0 e4) e3) e2) e1 n)
theorem evs_4 {β : Type} {Rel : Led → Value → β → Prop} (mono : ∀ n n' v b, (∀ p ∈ n, p ∈ n') → Rel n v b → Rel n' v b) {e1 e2 e3 e4 : PySem.Expr} {b1 b2 b3 b4 : β} (h1 : ∀ n, Ev C en l n e1 (Gr n fun tl v => Rel tl v b1)) (h2 : ∀ n, Ev C en l n e2 (Gr n fun tl v => Rel tl v b2)) (h3 : ∀ n, Ev C en l n e3 (Gr n fun tl v => Rel tl v b3)) (h4 : ∀ n, Ev C en l n e4 (Gr n fun tl v => Rel tl v b4))
    (s1 : starEach [e1, e2, e3, e4] en = (false, eval e1 en) :: starEach [e2, e3, e4] en) (s2 : starEach [e2, e3, e4] en = (false, eval e2 en) :: starEach [e3, e4] en) (s3 : starEach [e3, e4] en = (false, eval e3 en) :: starEach [e4] en) (s4 : starEach [e4] en = (false, eval e4 en) :: starEach [] en) :
    Evs C en l news [e1, e2, e3, e4] (GrL news fun tl vs => All2 (Rel tl) vs [b1, b2, b3, b4]) :=
  evsg_rel mono h1 (evsg_rel mono h2 (evsg_rel mono h3 (evsg_rel mono h4 evsg_rel0 s4) s3) s2) s1 news
end
section
variable {W : Wx} {room : Nat} {sc : Scope} {cl : List (Str × Addr)} {C : Cx W room sc cl} {en : Env} {l : Bnd} {news : Led}
theorem evI_powN {a b : PySem.Expr} {x y : Int} {p : Pos} (n m : Nat) (ha : EvI C en l news a x) (hb : EvI C en l news b y) (hy : y = (n : Int)) (hx : Builtin.Int.intBits x ≤ m) (hm : m * n ≤ 134217728) : EvI C en l news (.BinOp a .Pow b p) (x ^ n) := by
  subst hy
  have := evI_pow (p := p) ha hb (Int.natCast_nonneg n) (by
    have h := Nat.le_trans (Nat.mul_le_mul_right n hx) hm
    have : (((Builtin.Int.intBits x) * n : Nat) : Int) ≤ ((134217728 : Nat) : Int) := Int.ofNat_le.mpr h
    rwa [Int.natCast_mul] at this)
  rwa [Int.toNat_natCast] at this
end
theorem sub0 {d j : Nat} (h : j ≤ d) : (d : Int) - (0 + (j : Int)) = ((d - j : Nat) : Int) := by rw [Int.zero_add, Int.ofNat_sub h]
theorem tb_lim {m k : Nat} (h : termB m k ≤ 67108864) : Amd6 (k * 3 ≤ 134217728) ((k + 1) * 3 ≤ 134217728) (2 + m ≤ 134217728) (m + 2 + (3 * k + 1) ≤ 134217728) (m + 3 * k + 3 + (3 * k + 4) ≤ 134217728) (m + (3 * k + 1) ≤ 134217728) := by
  unfold termB at h
  constructor <;> omega
theorem law_at_con (W : Wx) (news) (vc vt : Value) (ps : List Pt) (t : Rat) (m k : Nat) (hp : CvIn news m vc ps) (ht : FrIn news vt k t) (h1 : 1 ≤ ps.length) (h4 : ps.length ≤ 4) (hm1 : 1 ≤ m) (hb : 1 + ps.length * (termB m k + 1) + termB m k ≤ 67108864) :
    Con W.w W.mean W.mg W.mb 122 216 news [vc, vt] (Gr news fun tl r => PtIn (tl ++ news) (1 + ps.length * (termB m k + 1)) r (lawAt ps t)) := by
  obtain ⟨rc, vs, cc, rfl, hm, hl, ha⟩ := hp.at
  have hvl : vs.length ≤ 16384 := by rw [hl]; exact Nat.le_trans h4 (by decide)
  obtain ⟨d, hd⟩ : ∃ d, ps.length = d + 1 := Nat.exists_eq_succ_of_ne_zero (Nat.ne_of_gt h1)
  have hd3 : d ≤ 3 := Nat.le_of_succ_le_succ (show d + 1 ≤ 4 from hd ▸ h4)
  have hdi : ((ps.length : Int) - 1) = (d : Int) := by rw [hd]; exact Int.add_sub_cancel (d : Int) 1
  obtain ⟨b1, b2, b3, b4, b5, b6⟩ := tb_lim (Nat.le_trans (Nat.le_add_left _ _) hb)
  refine' con_of [(Str.ofString "curve", .ref rc), (Str.ofString "t", vt)] (l := [(Str.ofString "t", vt), (Str.ofString "curve", .ref rc)]) ?ho ?hcd ?hbind ?hloc ?h1 ?h2 ?h3 ?h4 rfl ?_
  case ho => k_is
  case hcd => k_is
  case hbind => exact rfl
  case hloc => exact rfl
  case h1 => exact rfl
  case h2 => exact rfl
  case h3 => exact rfl
  case h4 => decide
  intro C
  refine ex_set2s (ev_tuple (P := fun us n => Som2 fun u R => Amd3 (us = [.int (d : Int) u, .ref R]) (n = (R, listOf ([] : List Value).toArray 0) :: news) (AllLt R news)) (post := fun v n => Som3 fun D u R => Amd3 (v = .ref D) (n = (D, tupO #[.int (d : Int) u, .ref R] 0) :: (R, listOf ([] : List Value).toArray 0) :: news) (AllLt R news)) (evs_cons (evI_sub (ev_lenV (ev_ty (bi_len W)) (ev_local rfl rfl rfl) (seqT hm) hl (hl ▸ hvl)) evI_const) ?_) ?_) rfl rfl rfl rfl ?_
  · rintro v n ⟨⟨u, rfl⟩, rfl⟩
    refine evs_cons (ev_list (P := fun us n' => us = [] ∧ n' = n) (post := fun v n' => ∃ R, Amd3 (v = .ref R) (n' = (R, listOf ([] : List Value).toArray 0) :: n) (AllLt R n)) evs_nil ?_) ?_
    · rintro us n' D ⟨rfl, rfl⟩ hD
      exact ⟨by simp, D, rfl, rfl, hD⟩
    · rintro v n' ⟨R, rfl, rfl, hR⟩
      refine evs_nil.mono ?_
      rintro us n' ⟨rfl, rfl⟩
      exact ⟨u, R, by rw [hdi], rfl, hR⟩
  · rintro us n D ⟨u, R, rfl, rfl, hR⟩ hD
    exact ⟨by simp, D, u, R, rfl, rfl, hR⟩
  rintro v n ⟨D0, td, R, rfl, rfl, hR⟩
  refine ⟨D0, 0, .int (d : Int) td, .ref R, rfl, ?a, Ex.sub (news' := (R, listOf ([] : List Value).toArray 0) :: news) ?b ?c⟩
  case a => exact .head _
  case c =>
    intro p hp
    exact List.mem_cons_of_mem _ hp
  refine ex_set (P := Gr ((R, listOf ([] : List Value).toArray 0) :: news) (LsIn IsI (binL d))) ?hm ?hx ?hs ?hr
  case hx => exact rfl
  case hs => exact rfl
  case hm =>
    refine ev_sub (d : Int) (P := Gr ((R, listOf ([] : List Value).toArray 0) :: news) (LsIn (fun tl v b => LsIn IsI b tl v) [binL 0, binL 1, binL 2, binL 3])) ?ha ?hb ?hi ?hlo ?hhi ?hss
    case hlo => exact ix_lo
    case hhi => exact ix_hi (Nat.lt_succ_of_le hd3) (by decide)
    case hss =>
      intro r u
      with_unfolding_all rfl
    case hb =>
      intro v n _
      exact evI_of (ev_local rfl rfl rfl)
    case ha =>
      refine evg_list (Rel := fun tl v b => LsIn IsI b tl v) ls_mono ?hz ?he
      case hz => exact Nat.le_of_ble_eq_true rfl
      case he =>
        refine evs_4 (Rel := fun tl v b => LsIn IsI b tl v) ls_mono ?l1 ?l2 ?l3 ?l4 ?s1 ?s2 ?s3 ?s4
        case s1 => exact rfl
        case s2 => exact rfl
        case s3 => exact rfl
        case s4 => exact rfl
        case l1 => exact ev_l1 rfl
        case l2 => exact ev_l2 rfl rfl
        case l3 => exact ev_l3 rfl rfl rfl
        case l4 => exact ev_l4 rfl rfl rfl rfl
    case hi =>
      rintro v n ⟨tl, rfl, ab, D, us, c, rfl, hmD, hus⟩
      obtain ⟨x, hx, hxr⟩ := hus.get' d (binL d) (by rcases d with _ | _ | _ | _ | d; all_goals first | rfl | omega)
      exact ⟨D, us, x, rfl, seqL (mem_l hmD), At.of (Int.natCast_nonneg d) hx, tl, rfl, ab, hxr⟩
  case hr =>
    rintro v n ⟨tlm, rfl, abm, M, ws, cm, rfl, hmM, hws⟩
    refine Ex.sub (news' := (R, listOf ([] : List Value).toArray 0) :: (tlm ++ news)) ?hEx ?hSub
    case hSub =>
      intro p hp
      rcases List.mem_cons.mp hp with rfl | hp
      · exact mem_app (.head _)
      · rcases List.mem_append.mp hp with hp | hp
        · exact mem_l hp
        · exact mem_app (List.mem_cons_of_mem _ hp)
    case hEx =>
      have hRn : ∀ p ∈ tlm ++ news, p.1 ≠ R := fun p hp => by
        rcases List.mem_append.mp hp with hp | hp
        · exact Nat.ne_of_gt (abm p hp _ (.head _))
        · exact Nat.ne_of_lt (ktn_ltOf hR p hp)
      refine ex_forApp (fun n v b => FrIn n v (1 + ps.length * (termB m k + 1)) b) (fun n n' v b hs h => h.mono hs) [axisR ps t 0, axisR ps t 1] (rngItems 0 2) [] R [] 0 (fun l' => look l' (Str.ofString "curve") = some (.ref rc) ∧ look l' (Str.ofString "t") = some vt ∧ look l' (Str.ofString "found") = some (.ref R) ∧ look l' (Str.ofString "degree") = some (.int (d : Int) td) ∧ look l' (Str.ofString "many") = some (.ref M)) ?hI ?hK ?hR2 ?hL ?h0 ?hlen ?turn ?fin
      case hI => exact itr_range (b := 2) (ev_range1 (ev_ty (bi_range W)) evI_const) rfl (by decide) (by decide) (by decide)
      case hK => exact fun _ h => nomatch h
      case hR2 => exact hRn
      case hL => exact ⟨rfl, rfl, rfl, rfl, rfl⟩
      case h0 => exact True.intro
      case hlen => exact rfl
      case fin =>
        rintro l' ys c tl ⟨l1, l2, l3, l4, l5⟩ hall ab hne
        obtain ⟨y0, y1, rfl, hall0, hall1⟩ := hall.two
        refine ex_ret (ev_tupL (ev_ty (bi_tuple W)) (ev_local l3 rfl rfl) ?_)
        rintro v n ⟨rfl, rfl⟩
        refine ⟨R, [y0, y1], c, rfl, .head _, Nat.le_of_ble_eq_true rfl, fun D hD => ⟨(D, tupO #[y0, y1] 0) :: (R, listOf [y0, y1].toArray c) :: (tl ++ tlm), ?_, ?_, D, y0, y1, 0, rfl, .head _, ?_, ?_⟩⟩
        · exact congrArg (fun z => (D, tupO #[y0, y1] 0) :: (R, listOf [y0, y1].toArray c) :: z) (List.append_assoc _ _ _).symm
        · rw [← List.append_assoc] at hD
          exact Abv.cons hD (fun p hp q hq => by
            rcases List.mem_cons.mp hp with rfl | hp
            · exact ktn_ltOf hR q hq
            · rcases List.mem_append.mp hp with hp | hp
              · exact ab p hp q (mem_app hq)
              · exact abm p hp q (List.mem_cons_of_mem _ hq))
        · exact hall0.mono fun p hp => List.mem_cons_of_mem _ (List.mem_cons_of_mem _ (by show p ∈ (tl ++ tlm) ++ news; rw [List.append_assoc]; exact hp))
        · exact hall1.mono fun p hp => List.mem_cons_of_mem _ (List.mem_cons_of_mem _ (by show p ∈ (tl ++ tlm) ++ news; rw [List.append_assoc]; exact hp))
      case turn =>
        rintro ext i a b l' n its ys c tl hi hb' ⟨l1, l2, l3, l4, l5⟩ hy hS hap
        obtain ⟨hlt, rfl⟩ := rng_get hi
        have hbe : b = axisR ps t i := by
          rcases i with _ | _ | i
          · exact (Option.some.inj hb').symm
          · exact (Option.some.inj hb').symm
          · omega
        subst hbe
        refine trn_tok rfl fun t' => ?_
        have hsub : ∀ p ∈ tlm ++ news, p ∈ its ++ n := fun p hp => mem_app (hS.1 p (.tail _ (mem_app (mem_app hp))))
        have hax := fun j => ax_sm ha hm1 i j
        refine ex_set (P := fun v n' => ∃ R2, Amd3 (v = .ref R2) (n' = (R2, listOf ([] : List Value).toArray 0) :: (its ++ n)) (AllLt R2 (its ++ n))) ?te ?tx ?ts ?tr
        case tx => exact rfl
        case ts => exact rfl
        case te =>
          refine ev_list (P := fun us n' => us = [] ∧ n' = its ++ n) evs_nil ?_
          rintro us n' D ⟨rfl, rfl⟩ hD
          exact ⟨by simp, D, rfl, rfl, hD⟩
        case tr =>
          rintro v n' ⟨R2, rfl, rfl, hR2⟩
          refine ex_forApp (fun n v b => PrIn n (termB m k) v b) (fun n n' v b hs h => h.mono hs) (termsQ ps t i) (rngItems 0 (d + 1)) [] R2 [] 0 (fun l' => look l' (Str.ofString "curve") = some (.ref rc) ∧ look l' (Str.ofString "t") = some vt ∧ look l' (Str.ofString "found") = some (.ref R) ∧ look l' (Str.ofString "degree") = some (.int (d : Int) td) ∧ look l' (Str.ofString "many") = some (.ref M) ∧ look l' (Str.ofString "axis") = some (.int (0 + (i : Int)) t') ∧ look l' (Str.ofString "terms") = some (.ref R2)) ?jI ?jK ?jR2 ?jL ?j0 ?jlen ?jturn ?jfin
          case jI => exact itr_range (b := (d : Int) + 1) (ev_range1 (ev_ty (bi_range W)) (evI_add (evI_of (ev_local ((look_tail rfl).trans ((look_tail rfl).trans l4)) rfl rfl)) evI_const)) ((Int.zero_add _).symm) (by decide) (by decide) (Nat.le_trans (Nat.succ_le_succ hd3) (by decide))
          case jK => exact fun _ h => nomatch h
          case jR2 => exact fun p hp => Nat.ne_of_lt (ktn_ltOf hR2 p hp)
          case jL => exact ⟨(look_tail rfl).trans ((look_tail rfl).trans l1), (look_tail rfl).trans ((look_tail rfl).trans l2), (look_tail rfl).trans ((look_tail rfl).trans l3), (look_tail rfl).trans ((look_tail rfl).trans l4), (look_tail rfl).trans ((look_tail rfl).trans l5), (look_tail rfl).trans look_head, look_head⟩
          case j0 => exact True.intro
          case jlen =>
            rw [rng_len]
            show ((List.range ps.length).map _).length = 0 + (d + 1)
            rw [List.length_map, List.length_range, hd, Nat.zero_add]
          case jfin =>
            rintro l2' ys2 c2 tl2 ⟨k1, k2, k3, k4, k5, k6, k7⟩ hall2 ab2 hne2
            have hql : (termsQ ps t i).length = ps.length := by unfold termsQ; rw [List.length_map, List.length_range]
            refine ex_appLP (pre := (R2, listOf ys2.toArray c2) :: tl2) hS hap ?_ (by rw [hy]; exact (Nat.zero_add i).symm ▸ Nat.le_trans (Nat.le_of_lt hlt) (by decide)) (ev_local k3 rfl rfl) ?_
            · intro p hp q hq
              rcases List.mem_cons.mp hp with rfl | hp
              · exact ktn_ltOf hR2 q hq
              · exact ab2 p hp q hq
            · refine (ev_callV (ev_fn (fn_law_sum W).1 rfl rfl) (fn_law_sum W).2 (evsV_cons (ev_local k7 rfl rfl) evsV_nil) (sum_con W _ R2 _ ys2 (termsQ ps t i) (termB m k) (.head _) (isL _ _) (hall2.mono fun _ _ h => h.mono fun p hp => List.mem_cons_of_mem _ hp) (by rw [hql]; exact hb)) (Nat.le_refl _)).mono ?_
              rintro v n' ⟨tl3, e, ab3, hv⟩
              refine ⟨tl3, e, ab3, ⟨k1, k2, k3, k4, k5⟩, ?_⟩
              rw [hql] at hv
              exact hv.mono fun p hp => mem_l hp
          case jturn =>
            rintro ext2 j a2 b2 l2' n2 its2 ys2 c2 tl2 hj hb2 ⟨k1, k2, k3, k4, k5, k6, k7⟩ hy2 hS2 hap2
            obtain ⟨hjlt, rfl⟩ := rng_get hj
            have hjd : j ≤ d := Nat.le_of_lt_succ hjlt
            have hj3 : j ≤ 3 := Nat.le_trans hjd hd3
            have hb2e : b2 = termQ d i ps t j := by
              unfold termsQ at hb2
              rw [List.getElem?_map, Option.map_eq_some_iff] at hb2
              obtain ⟨j', hj', e⟩ := hb2
              obtain ⟨hlt', e2⟩ := List.getElem?_eq_some_iff.mp hj'
              rw [List.getElem_range] at e2
              have e3 : j' = j := e2.symm.trans (Nat.zero_add j)
              rw [← e, e3, show ps.length - 1 = d from hd ▸ rfl]
            subst hb2e
            obtain ⟨q1, q2, q3, q4, q5, q6, q7, q8, q9⟩ := term_bits hax ht.sm d j hd3 hjd
            obtain ⟨pv, hpv, hpp⟩ := ha.get' j _ (getD_of (ps := ps) (i := j) (hd ▸ hjlt))
            obtain ⟨pl, v1, v2, pc, rfl, hpm, f1, f2⟩ := hpp
            have hsub2 : ∀ p ∈ tlm ++ news, p ∈ its2 ++ n2 := fun p hp => mem_app (hS2.1 p (.tail _ (mem_app (mem_app (hsub p hp)))))
            obtain ⟨fl, fx, hfx, u1, u2, fc, efx, hfm⟩ : Som2 fun fl fx => At [v1, v2] (0 + (i : Int)) fx ∧ Som3 fun u1 u2 fc => fx = .ref fl ∧ (fl, frO (ax i (ps.getD j Z2)) u1 u2 fc) ∈ news := by
              rcases i with _ | _ | i
              · obtain ⟨fl, u1, u2, fc, e, hm', _⟩ := f1
                exact ⟨fl, v1, At.of (by decide) rfl, u1, u2, fc, e, hm'⟩
              · obtain ⟨fl, u1, u2, fc, e, hm', _⟩ := f2
                exact ⟨fl, v2, At.of (by decide) rfl, u1, u2, fc, e, hm'⟩
              · omega
            subst efx
            obtain ⟨bx, bt, hbx, rfl⟩ := binP_get hws hd3 (k := j) hjd
            have ht2 : FrIn (its2 ++ n2) vt k t := ht.mono fun p hp => hsub2 p (mem_app hp)
            refine trn_tok rfl fun tk => ?_
            refine ex_set2 (P := fun v n' => v = .ref fl ∧ n' = its2 ++ n2) ?ae rfl rfl rfl rfl ?ar
            case ae => exact ev_subV (k := 0 + (i : Int)) (r := pl) (vs := [v1, v2]) (ev_subV (k := 0 + (j : Int)) (ev_local ((look_tail rfl).trans k1) rfl rfl) (evI_of (ev_local look_head rfl rfl)) (seqT (hsub2 _ (mem_app hm))) (At.of nn0 (by rw [Int.zero_add, Int.toNat_natCast]; exact hpv)) ix_lo0 (ix_hi0 hjlt (Nat.le_trans (Nat.succ_le_succ hd3) (by decide)))) (evI_of (ev_local ((look_tail rfl).trans k6) rfl rfl)) (seqT (c := pc) (hsub2 _ (mem_app hpm))) hfx ix_lo0 (ix_hi0 hlt (by decide))
            case ar =>
              rintro v n' ⟨rfl, rfl⟩
              refine ⟨fl, fc, _, _, rfl, hsub2 _ (mem_app hfm), ?_⟩
              refine ex_appL hS2 hap2 (by rw [hy2]; exact (Nat.zero_add j).symm ▸ Nat.le_trans hj3 (by decide)) (ev_local ((look_tail rfl).trans ((look_tail rfl).trans ((look_tail rfl).trans k7))) rfl rfl) ?_
              refine (ev_pr (m := termB m k) (x := (termQ d i ps t j).1) (y := (termQ d i ps t j).2) ?top ?bot q6 q8 q9 rfl rfl).mono ?_
              case top =>
                have hkj : k * j ≤ 134217728 := Nat.le_trans (Nat.mul_le_mul_left k hj3) b1
                have hkd : (k + 1) * (d - j) ≤ 134217728 := Nat.le_trans (Nat.mul_le_mul_left (k + 1) (Nat.le_trans (Nat.sub_le _ _) hd3)) b2
                refine evI_mul (evI_mul (evI_mul (evI_of (t := bt) (ev_subV (k := 0 + (j : Int)) (r := M) (vs := ws) (ev_local ((look_tail rfl).trans ((look_tail rfl).trans ((look_tail rfl).trans k5))) rfl rfl) (evI_of (ev_local ((look_tail rfl).trans ((look_tail rfl).trans look_head)) rfl rfl)) (seqL (hsub2 _ (mem_l hmM))) (At.of nn0 (by rw [Int.zero_add, Int.toNat_natCast]; exact hbx)) ix_lo0 (ix_hi0 hjlt (Nat.le_trans (Nat.succ_le_succ hd3) (by decide))))) (evI_of (ev_local ((look_tail rfl).trans look_head) rfl rfl)) ?_)
                  (evI_powN j k (evI_num (ev_local ((look_tail rfl).trans ((look_tail rfl).trans ((look_tail rfl).trans k2))) rfl rfl) ht2) (evI_of (ev_local ((look_tail rfl).trans ((look_tail rfl).trans look_head)) rfl rfl)) (Int.zero_add _) ht.sm.1 hkj) ?_)
                  (evI_powN (d - j) (k + 1) (evI_sub (evI_den (ev_local ((look_tail rfl).trans ((look_tail rfl).trans ((look_tail rfl).trans k2))) rfl rfl) ht2) (evI_num (ev_local ((look_tail rfl).trans ((look_tail rfl).trans ((look_tail rfl).trans k2))) rfl rfl) ht2)) (evI_sub (evI_of (ev_local ((look_tail rfl).trans ((look_tail rfl).trans ((look_tail rfl).trans k4))) rfl rfl)) (evI_of (ev_local ((look_tail rfl).trans ((look_tail rfl).trans look_head)) rfl rfl))) (sub0 hjd) q4 hkd) ?_
                · exact IntMulOk.of_le (binC_bits d j hd3) (hax j).1 b3
                · exact IntMulOk.of_le q1 q2 b4
                · exact IntMulOk.of_le q3 q5 b5
              case bot =>
                have hkd : k * d ≤ 134217728 := Nat.le_trans (Nat.mul_le_mul_left k hd3) b1
                exact evI_mul (evI_of (ev_local look_head rfl rfl)) (evI_powN d k (evI_den (ev_local ((look_tail rfl).trans ((look_tail rfl).trans ((look_tail rfl).trans k2))) rfl rfl) ht2) (evI_of (ev_local ((look_tail rfl).trans ((look_tail rfl).trans ((look_tail rfl).trans k4))) rfl rfl)) rfl ht.sm.2 hkd) (IntMulOk.of_le (hax j).2 q7 b6)
              · rintro r n' ⟨tl3, e, ab3, hv⟩
                exact ⟨tl3, e, ab3, ⟨(look_tail rfl).trans ((look_tail rfl).trans ((look_tail rfl).trans k1)), (look_tail rfl).trans ((look_tail rfl).trans ((look_tail rfl).trans k2)), (look_tail rfl).trans ((look_tail rfl).trans ((look_tail rfl).trans k3)), (look_tail rfl).trans ((look_tail rfl).trans ((look_tail rfl).trans k4)), (look_tail rfl).trans ((look_tail rfl).trans ((look_tail rfl).trans k5)), (look_tail rfl).trans ((look_tail rfl).trans ((look_tail rfl).trans k6)), (look_tail rfl).trans ((look_tail rfl).trans ((look_tail rfl).trans k7))⟩, hv⟩

end Mine

end
section
set_option linter.unusedVariables false
open PySem PySem.W PyProof.Rows PySem.Calls
set_option Elab.async false
set_option maxRecDepth 100000
set_option maxHeartbeats 1000000
namespace Mine
noncomputable def betweenL (t u s : Rat) : List (Int × Int) := [(t.num, (t.den : Int)), (s.num * u.num, (s.den : Int) * u.den), (-s.num * t.num, (s.den : Int) * t.den)]
noncomputable def betweenR (t u s : Rat) : Rat := Rat.divInt (sumQ (betweenL t u s)).1 (sumQ (betweenL t u s)).2
noncomputable def betB (k : Nat) : Nat := 1 + 3 * (k + k + 1)
theorem between_con (W : Wx) (news) (vt vu vs : Value) (t u s : Rat) (k : Nat) (ht : FrIn news vt k t) (hu : FrIn news vu k u) (hs : FrIn news vs k s) (hb : 8 * k + 4 ≤ 67108864) :
    Con W.w W.mean W.mg W.mb 122 223 news [vt, vu, vs] (Gr news fun tl r => FrIn tl r (betB k) (betweenR t u s)) := by
  have hk : k + k ≤ 134217728 := by omega
  have ht' := ht.pr
  refine' con_of [(Str.ofString "t", vt), (Str.ofString "u", vu), (Str.ofString "share", vs)] (l := [(Str.ofString "share", vs), (Str.ofString "u", vu), (Str.ofString "t", vt)]) ?ho ?hcd ?hbind ?hloc ?h1 ?h2 ?h3 ?h4 rfl ?_
  case ho => k_is
  case hcd => k_is
  case hbind => exact rfl
  case hloc => exact rfl
  case h1 => exact rfl
  case h2 => exact rfl
  case h3 => exact rfl
  case h4 => decide
  intro C
  refine ex_ret (ev_call (P := fun ws n => Som3 fun D ys tl => Amd4 (ws = [.ref D]) (n = (D, listOf (ys : List Value).toArray 0) :: (tl ++ news)) (Abv news ((D, listOf ys.toArray 0) :: tl)) (All2 (PrIn n (k + k)) ys (betweenL t u s))) (cost := 121) (ev_fn (fn_law_sum W).1 rfl rfl) (fn_law_sum W).2 (evs_cons (P := fun v n => Som3 fun D ys tl => Amd4 (v = .ref D) (n = (D, listOf (ys : List Value).toArray 0) :: (tl ++ news)) (Abv news ((D, listOf ys.toArray 0) :: tl)) (All2 (PrIn n (k + k)) ys (betweenL t u s))) ?_ ?_) ?_ (Nat.le_refl _))
  · refine ev_list (P := GrL news fun tl ys => All2 (PrIn (tl ++ news) (k + k)) ys (betweenL t u s)) (evs_cons (ev_local rfl rfl rfl) ?_) ?_
    · rintro v n ⟨rfl, rfl⟩
      refine (evsg_cons (P := fun tl ys => All2 (PrIn (tl ++ n) (k + k)) (v :: ys) (betweenL t u s)) (ev_pr (m := k + k) (evI_mul (evI_num (ev_local rfl rfl rfl) hs) (evI_num (ev_local rfl rfl rfl) hu) (IntMulOk.of_le hs.sm.1 hu.sm.1 hk)) (evI_mul (evI_den (ev_local rfl rfl rfl) hs) (evI_den (ev_local rfl rfl rfl) hu) (IntMulOk.of_le hs.sm.2 hu.sm.2 hk)) (intBits_mul_le hs.sm.1 hu.sm.1) (intBits_mul_le hs.sm.2 hu.sm.2) (Int.mul_pos (den_pos s) (den_pos u)) rfl rfl) ?_ rfl).mono ?_
      · intro tl w ab hw
        have hs2 : FrIn (tl ++ n) vs k s := hs.mono fun p hp => mem_app hp
        have ht2 : FrIn (tl ++ n) v k t := ht.mono fun p hp => mem_app hp
        refine evsg_cons (ev_pr (m := k + k) (evI_mul (evI_neg (evI_num (ev_local rfl rfl rfl) hs2)) (evI_num (ev_local rfl rfl rfl) ht2) (IntMulOk.of_le (intBits_neg_le hs.sm.1) ht.sm.1 hk)) (evI_mul (evI_den (ev_local rfl rfl rfl) hs2) (evI_den (ev_local rfl rfl rfl) ht2) (IntMulOk.of_le hs.sm.2 ht.sm.2 hk)) (intBits_mul_le (intBits_neg_le hs.sm.1) ht.sm.1) (intBits_mul_le hs.sm.2 ht.sm.2) (Int.mul_pos (den_pos s) (den_pos t)) rfl rfl) ?_ rfl
        intro tl2 w2 ab2 hw2
        refine evsg_nil ⟨?_, hw.mono fun p hp => mem_l (mem_app hp), hw2.mono fun p hp => mem_l (mem_l hp), True.intro⟩
        obtain ⟨T, t1, t2, c, e, hm, z1, z2, z3⟩ := ht'
        exact ⟨T, t1, t2, c, e, mem_app hm, Nat.le_trans z1 (Nat.le_add_left _ _), Nat.le_trans z2 (Nat.le_add_left _ _), z3⟩
      · rintro ys n' ⟨tl, rfl, ab, h⟩
        exact ⟨tl, rfl, ab, h⟩
    · rintro ys n D ⟨tl, rfl, ab, h⟩ hD
      exact ⟨by rw [h.len]; exact Nat.le_of_ble_eq_true rfl, D, ys, tl, rfl, rfl, Abv.cons hD ab, h.mono fun _ _ h => h.mono fun p hp => List.mem_cons_of_mem _ hp⟩
  · rintro v n ⟨D, ys, tl, rfl, rfl, ab, h⟩
    refine evs_nil.mono ?_
    rintro ws n' ⟨rfl, rfl⟩
    exact ⟨D, ys, tl, rfl, rfl, ab, h⟩
  · rintro ws n ⟨D, ys, tl, rfl, rfl, ab, h⟩
    refine (sum_con W _ D _ ys (betweenL t u s) (k + k) (.head _) (isL _ _) h (by show 1 + 3 * (k + k + 1) + (k + k) ≤ _; omega)).mono ?_
    rintro r n ⟨tl2, rfl, ab2, hr⟩
    exact ⟨tl2 ++ ((D, listOf ys.toArray 0) :: tl), (List.append_assoc tl2 ((D, listOf ys.toArray 0) :: tl) news).symm, ab.app ab2, hr.mono fun p hp => mem_l hp⟩
/-- the source of draws -/
def SrcO (o : Obj) : Prop := Som4 fun d x t1 t2 => Amd4 (IsL o [.int d t1, .int x t2]) (0 ≤ d) (0 ≤ x) (x < 2147483647)
theorem bits31 {x : Int} (h0 : 0 ≤ x) (h1 : x < 2147483647) : Builtin.Int.intBits x ≤ 31 := by
  refine intBits_le_iff.mpr ?_
  have e : (2 : Nat) ^ 31 = 2147483648 := by decide
  rw [e]
  omega
theorem take_con (W : Wx) (sa : Addr) (o : Obj) (rest : Led) (top : Int) (t : Tok) (h0 : 0 < top) (h1 : top ≤ 1000) (ho : SrcO o) (hr : ∀ p ∈ rest, p.1 ≠ sa) :
    Con W.w W.mean W.mg W.mb 2 174 ((sa, o) :: rest) [.ref sa, .int top t] (fun r n => Som3 fun o' k t' => Amd5 (r = .int k t') (0 ≤ k) (k < top) (SrcO o') (n = (sa, o') :: rest)) := by
  obtain ⟨d, x, td, tx, hL, hd, hx, hx2⟩ := ho
  have hs : Seq sa [.int d td, .int x tx] ((sa, o) :: rest) := .inr ⟨o, .head _, hL⟩
  have ht0 : top ≠ 0 := ne_pos h0
  refine' con_of [(Str.ofString "source", .ref sa), (Str.ofString "top", .int top t)] (l := [(Str.ofString "top", .int top t), (Str.ofString "source", .ref sa)]) ?ho ?hcd ?hbind ?hloc ?h1 ?h2 ?h3 ?h4 rfl ?_
  case ho => k_is
  case hcd => k_is
  case hbind => exact rfl
  case hloc => exact rfl
  case h1 => exact rfl
  case h2 => exact rfl
  case h3 => exact rfl
  case h4 => decide
  intro C
  refine ex_ifT (P := fun c n => c = decide (0 < d) ∧ n = (sa, o) :: rest) ?t1 ?t2 ?t3
  case t1 => exact tst_int (evI_of (ev_subV (k := 0) (ev_local rfl rfl rfl) evI_const hs (At.of (by decide) rfl) (by decide) (by decide))) evI_const rfl rfl
  case t2 =>
    rintro n ⟨_, rfl⟩
    refine ex_set (evI_mod (evI_of (ev_subV (k := 0) (ev_local rfl rfl rfl) evI_const hs (At.of (by decide) rfl) (by decide) (by decide))) (evI_of (ev_local rfl rfl rfl)) ht0) rfl rfl ?_
    rintro v n ⟨⟨u, rfl⟩, rfl⟩
    refine ex_setItem (r := sa) (k := 0) (vs := [.int d td, .int x tx]) rest (evI_divS (evI_of (ev_subV (k := 0) (ev_local rfl rfl rfl) evI_const hs (At.of (by decide) rfl) (by decide) (by decide))) (evI_of (ev_local rfl rfl rfl)) ht0 (by omega)) (ev_local rfl rfl rfl) evI_const (.head _) hL (by decide) (Int.lt_of_add_one_le (by show (_ : Int) ≤ ((2 : Nat) : Int); decide)) (by decide) (fun p hp => List.mem_cons_of_mem _ hp) hr ?_ rfl
    intro ob' t' hL'
    refine ex_ret ((ev_local rfl rfl rfl).mono ?_)
    rintro v n ⟨rfl, rfl⟩
    exact ⟨ob', _, _, rfl, Int.fmod_nonneg_of_pos _ h0, Int.fmod_lt_of_pos _ h0, ⟨_, x, _, tx, hL', Int.fdiv_nonneg hd (Int.le_of_lt h0), hx, hx2⟩, rfl⟩
  case t3 =>
    rintro n ⟨_, rfl⟩
    refine ex_nil ?_
    have hb := bits31 hx hx2
    refine ex_setItem (r := sa) (k := 1) (vs := [.int d td, .int x tx]) rest (evI_mod (evI_add (evI_mul (evI_of (ev_subV (k := 1) (ev_local rfl rfl rfl) evI_const hs (At.of (by decide) rfl) (by decide) (by decide))) evI_const (IntMulOk.of_le (n := 16) hb (by decide) (by decide))) evI_const) evI_const (by decide)) (ev_local rfl rfl rfl) evI_const (.head _) hL (by decide) (Int.lt_of_add_one_le (by show (_ : Int) ≤ ((2 : Nat) : Int); decide)) (by decide) (fun p hp => List.mem_cons_of_mem _ hp) hr ?_ rfl
    intro ob' t' hL'
    have hy0 : 0 ≤ (x * 39373 + 7).fmod 2147483647 := Int.fmod_nonneg_of_pos _ (by decide)
    have hy1 : (x * 39373 + 7).fmod 2147483647 < 2147483647 := Int.fmod_lt_of_pos _ (by decide)
    have hb' := bits31 hy0 hy1
    have hs' : Seq sa [.int d td, .int ((x * 39373 + 7).fmod 2147483647) t'] ((sa, ob') :: rest) := .inr ⟨ob', .head _, hL'⟩
    refine ex_ret ((evI_mod (evI_divS (evI_mod (evI_mul (evI_of (ev_subV (k := 1) (ev_local rfl rfl rfl) evI_const hs' (At.of (by decide) rfl) (by decide) (by decide))) (evI_of (ev_subV (k := 1) (ev_local rfl rfl rfl) evI_const hs' (At.of (by decide) rfl) (by decide) (by decide))) (IntMulOk.of_le hb' hb' (by decide))) evI_const (by decide)) evI_const (by decide) (by decide)) (evI_of (ev_local rfl rfl rfl)) ht0).mono ?_)
    rintro v n ⟨⟨u, rfl⟩, rfl⟩
    exact ⟨ob', _, _, rfl, Int.fmod_nonneg_of_pos _ h0, Int.fmod_lt_of_pos _ h0, ⟨d, _, td, t', hL', hd, hy0, hy1⟩, rfl⟩

end Mine

end
section
set_option linter.unusedVariables false
open PySem PySem.W PyProof.Rows PySem.Calls
set_option Elab.async false
set_option maxRecDepth 100000
set_option maxHeartbeats 1000000
namespace Mine
section
variable {W : Wx} {room : Nat} {sc : Scope} {cl : List (Str × Addr)} {C : Cx W room sc cl} {en : Env} {l : Bnd} {news : Led}
/-- an item, where the place's evaluation changes the ledger -/
theorem ev_subE {a b : PySem.Expr} {p : Pos} {r : Addr} {P : Int → Led → Prop} {post : Value → Led → Prop} (ha : EvV C en l news a (.ref r)) (hb : Ev C en l news b (fun v n => Som2 fun k t => v = .int k t ∧ P k n)) (hi : ∀ k n, P k n → Som2 fun vs x => Amd5 (Seq r vs n) (At vs k x) (post x n) (-(2 ^ 63) ≤ k) (k < 2 ^ 63))
    (hs : ∀ k r u, subscripted b false (.ref r) (.int k u) = operate [.ref r, .int k u] (getItem (.ref r) (.int k u)) := by intro k r u; with_unfolding_all rfl) : Ev C en l news (.Subscript a b p) post :=
  fun E Q s F N q => Subscript_ (ha E _ s F N fun v n h' tk F' N' ⟨e1, e2⟩ => by
    subst e1; subst e2
    exact hb E _ _ F' N' fun v n2 h2 tk2 F2 N2 ⟨k, t, e3, hp⟩ => by
      subst e3
      obtain ⟨vs, x, h1, hx, h3, h4, h5⟩ := hi k n2 hp
      exact item_seq N2 h1 h4 h5 hx (q _ _ h2 _ F2 N2 h3) (hs _ _ _))
end
theorem one_con (W : Wx) (sa : Addr) (o : Obj) (rest : Led) (r : Addr) (c : Nat) (vs : List Value) (hz : 1 ≤ vs.length) (hz2 : vs.length ≤ 1000) (ho : SrcO o) (hr : ∀ p ∈ rest, p.1 ≠ sa) (hm : (r, listOf vs.toArray c) ∈ rest) :
    Con W.w W.mean W.mg W.mb 3 181 ((sa, o) :: rest) [.ref sa, .ref r] (fun x n => ∃ o', Amd3 (x ∈ vs) (SrcO o') (n = (sa, o') :: rest)) := by
  refine' con_of [(Str.ofString "source", .ref sa), (Str.ofString "things", .ref r)] (l := [(Str.ofString "things", .ref r), (Str.ofString "source", .ref sa)]) ?ho ?hcd ?hbind ?hloc ?h1 ?h2 ?h3 ?h4 rfl ?_
  case ho => k_is
  case hcd => k_is
  case hbind => exact rfl
  case hloc => exact rfl
  case h1 => exact rfl
  case h2 => exact rfl
  case h3 => exact rfl
  case h4 => decide
  intro C
  have hnm : (r, listOf vs.toArray c) ∈ (sa, o) :: rest := List.mem_cons_of_mem _ hm
  refine ex_ret (ev_subE (P := fun k n => ∃ o', Amd4 (0 ≤ k) (k < vs.length) (SrcO o') (n = (sa, o') :: rest)) (ev_local rfl rfl rfl) (ev_call (P := fun us n => ∃ t, us = [.ref sa, .int (vs.length : Int) t] ∧ n = (sa, o) :: rest) (cost := 2) (ev_fn (fn_law_take W).1 rfl rfl) (fn_law_take W).2 (evs_cons (ev_local rfl rfl rfl) ?_) ?_ (Nat.le_refl _)) ?_)
  · rintro v n ⟨rfl, rfl⟩
    refine evs_cons (ev_lenV (ev_ty (bi_len W)) (ev_local rfl rfl rfl) (seqL hnm) rfl (Nat.le_trans hz2 (by decide))) ?_
    rintro v n ⟨⟨t, rfl⟩, rfl⟩
    refine evs_nil.mono ?_
    rintro us n ⟨rfl, rfl⟩
    exact ⟨t, rfl, rfl⟩
  · rintro us n ⟨t, rfl, rfl⟩
    refine (take_con W sa o rest vs.length t (by omega) (by omega) ho hr).mono ?_
    rintro v n ⟨o', k, t', rfl, k0, k1, ho', rfl⟩
    exact ⟨k, t', rfl, o', k0, k1, ho', rfl⟩
  · rintro k n ⟨o', k0, k1, ho', rfl⟩
    have hlt : k.toNat < vs.length := by omega
    exact ⟨vs, vs[k.toNat], seqL (List.mem_cons_of_mem _ hm), At.of k0 (List.getElem?_eq_getElem hlt), ⟨o', List.getElem_mem hlt, ho', rfl⟩, by omega, by omega⟩
theorem PrIn.fr {n : Led} {m : Nat} {v : Value} {a b : Int} {q : Rat} (h : PrIn n m v (a, b)) (e1 : q.num = a) (e2 : (q.den : Int) = b) : FrIn n v m q := by
  obtain ⟨T, t1, t2, c, rfl, hm, z1, z2, _⟩ := h
  subst e1; subst e2
  exact ⟨T, t1, t2, c, rfl, hm, z1, z2⟩
/-- some fraction of at most m bits, of which P holds -/
def FrAny (P : Rat → Prop) (m : Nat) (n : Led) (v : Value) (_ : Unit) : Prop := ∃ q, FrIn n v m q ∧ P q
theorem frAny_mono {P : Rat → Prop} {m : Nat} : ∀ (n n' : Led) (v : Value) (b : Unit), (∀ p ∈ n, p ∈ n') → FrAny P m n v b → FrAny P m n' v b := fun _ _ _ _ hs ⟨q, h, hp⟩ => ⟨q, h.mono hs, hp⟩
noncomputable def kfr (m : Nat) (a b : Int) : Bool := (Nat.gcd a.natAbs b.natAbs == 1) && (decide (0 < b) && (Nat.ble (Builtin.Int.intBits a) m && Nat.ble (Builtin.Int.intBits b) m))
theorem kfr_ok {m : Nat} {a b : Int} (h : kfr m a b = true) : (Rat.divInt a b).num = a ∧ ((Rat.divInt a b).den : Int) = b ∧ Builtin.Int.intBits a ≤ m ∧ Builtin.Int.intBits b ≤ m ∧ 0 < b := by
  unfold kfr at h
  obtain ⟨h1, h⟩ := Bool.and_eq_true_iff.mp h
  obtain ⟨h2, h⟩ := Bool.and_eq_true_iff.mp h
  obtain ⟨h3, h4⟩ := Bool.and_eq_true_iff.mp h
  have hg : ((Int.gcd a b : Nat) : Int) = 1 := congrArg Int.ofNat (eq_of_beq h1)
  have hb := of_decide_eq_true h2
  refine ⟨?_, ?_, Nat.le_of_ble_eq_true h3, Nat.le_of_ble_eq_true h4, hb⟩
  · rw [← num_fr hb, hg, Int.fdiv_one]
  · rw [← den_fr hb, hg, Int.fdiv_one]
section
variable {W : Wx} {room : Nat} {sc : Scope} {cl : List (Str × Addr)} {C : Cx W room sc cl} {en : Env} {l : Bnd} {news : Led}
/-- a constant fraction (a, b) -/
theorem ev_kfr {P : Rat → Prop} {m : Nat} {e1 e2 : PySem.Expr} {k : Nat} {p : Pos} {a b : Int} (h1 : ∀ n, EvI C en l n e1 a) (h2 : ∀ n, EvI C en l n e2 b) (hd : (Rat.divInt a b).num = a ∧ ((Rat.divInt a b).den : Int) = b ∧ Builtin.Int.intBits a ≤ m ∧ Builtin.Int.intBits b ≤ m ∧ 0 < b) (hP : P (Rat.divInt a b)) (s1 : starEach [e1, e2] en = (false, eval e1 en) :: starEach [e2] en) (s2 : starEach [e2] en = (false, eval e2 en) :: starEach [] en) : ∀ n, Ev C en l n (.Tuple [e1, e2] k p) (Gr n fun tl v => FrAny P m tl v ()) :=
  fun n => (ev_pr (h1 n) (h2 n) hd.2.2.1 hd.2.2.2.1 hd.2.2.2.2 s1 s2).mono fun r n' ⟨tl, e, ab, h⟩ => ⟨tl, e, ab, _, h.fr hd.1 hd.2.1, hP⟩
end
/-- a call's draw out of a list: the source's entry is new, the rest has grown -/
def Drawn (sa : Addr) (o : Obj) (rest : Led) (P : Led → Value → Prop) (r : Value) (n : Led) : Prop := Som2 fun o' tl => Amd4 (SrcO o') (n = (sa, o') :: (tl ++ rest)) (Abv ((sa, o) :: rest) tl) (P tl r)
theorem All2.mem {α β : Type} {R : α → β → Prop} {P : α → Prop} (h : ∀ a b, R a b → P a) : ∀ {as : List α} {bs : List β}, All2 R as bs → ∀ a ∈ as, P a
  | [], [], _, _, hm => nomatch hm
  | a :: as, b :: bs, hh, x, hm => by
    rcases List.mem_cons.mp hm with rfl | hm
    · exact h _ _ hh.1
    · exact All2.mem h hh.2 x hm
section
variable {W : Wx} {room : Nat} {sc : Scope} {cl : List (Str × Addr)} {C : Cx W room sc cl} {en : Env} {l : Bnd}
/-- _law_one(source, [constant fractions]) -/
theorem ev_oneK {sa : Addr} {o : Obj} {rest : Led} {P : Rat → Prop} {m : Nat} {fe e1 : PySem.Expr} {es : List PySem.Expr} {p pl : Pos} {bs : List Unit} (hroom : 3 ≤ room) (hfe : ∀ n, EvV C en l n fe (.ref 181)) (h1 : EvV C en l ((sa, o) :: rest) e1 (.ref sa)) (hes : ∀ n, Evs C en l n es (GrL n fun tl vs => All2 (FrAny P m tl) vs bs)) (hz : 1 ≤ bs.length) (hz2 : bs.length ≤ 1000) (ho : SrcO o) (hr : ∀ p ∈ rest, p.1 ≠ sa)
    (s1 : starEach [e1, .List es pl] en = (false, eval e1 en) :: starEach [.List es pl] en) (s2 : starEach [.List es pl] en = (false, eval (.List es pl) en) :: starEach [] en) (hplain : ∀ pos, (backTo pos (starEach [.List es pl] en)).any (·.1) = false)
    (hst : eval (.Call fe [e1, .List es pl] [] p) en = (do callWith p (← eval fe en) [] (backTo p (starEach [e1, .List es pl] en)) (backToKw p (keywordEach [] en)))) :
    Ev C en l ((sa, o) :: rest) (.Call fe [e1, .List es pl] [] p) (Drawn sa o rest fun tl v => FrAny P m tl v ()) := by
  refine ev_call (P := fun us n => Som4 fun D ys c tl => Amd5 (us = [.ref sa, .ref D]) (n = tl ++ ((sa, o) :: rest)) (Abv ((sa, o) :: rest) tl) ((D, listOf (ys : List Value).toArray c) ∈ tl) (All2 (FrAny P m tl) ys bs)) (cost := 3) (hfe _) (fn_law_one W).2 (evs_cons h1 ?_ s1) ?_ hroom s1 hplain hst
  · rintro v n ⟨rfl, rfl⟩
    refine evs_cons (evg_list frAny_mono (Nat.le_trans hz2 (by decide)) (hes _)) ?_ s2
    rintro v n ⟨tl, rfl, ab, D, ys, c, rfl, hm, ha⟩
    refine evs_nil.mono ?_
    rintro us n ⟨rfl, rfl⟩
    exact ⟨D, ys, c, tl, rfl, rfl, ab, hm, ha⟩
  · rintro us n ⟨D, ys, c, tl, rfl, rfl, ab, hm, ha⟩
    have hlen := ha.len
    refine ((one_con W sa o (tl ++ rest) D c ys (by rw [hlen]; exact hz) (by rw [hlen]; exact hz2) ho ?_ (mem_l hm)).sub ?_).mono ?_
    · intro p hp
      rcases List.mem_append.mp hp with hp | hp
      · exact Nat.ne_of_gt (ab p hp _ (.head _))
      · exact hr p hp
    · intro p hp
      rcases List.mem_cons.mp hp with rfl | hp
      · exact mem_app (.head _)
      · rcases List.mem_append.mp hp with hp | hp
        · exact mem_l hp
        · exact mem_app (List.mem_cons_of_mem _ hp)
    · rintro x n ⟨o', hx, ho', rfl⟩
      exact ⟨o', tl, ho', rfl, ab, All2.mem (P := fun x => FrAny P m tl x ()) (fun _ _ h => h) ha x hx⟩
end
theorem number_con (W : Wx) (sa : Addr) (o : Obj) (rest : Led) (ho : SrcO o) (hr : ∀ p ∈ rest, p.1 ≠ sa) :
    Con W.w W.mean W.mg W.mb 4 188 ((sa, o) :: rest) [.ref sa] (Drawn sa o rest fun tl v => FrAny (fun _ => True) 4 tl v ()) := by
  refine' con_of [(Str.ofString "source", .ref sa)] (l := [(Str.ofString "source", .ref sa)]) ?ho ?hcd ?hbind ?hloc ?h1 ?h2 ?h3 ?h4 rfl ?_
  case ho => k_is
  case hcd => k_is
  case hbind => exact rfl
  case hloc => exact rfl
  case h1 => exact rfl
  case h2 => exact rfl
  case h3 => exact rfl
  case h4 => decide
  intro C
  refine ex_ret (ev_oneK (m := 4) (bs := List.replicate 8 ()) (P := fun _ => True) (Nat.le_refl _) (fun n => ev_fn (fn_law_one W).1 rfl rfl) (ev_local rfl rfl rfl) ?hes (by decide) (by decide) ho hr ?s1 ?s2 ?s3 ?s4)
  case s1 => exact rfl
  case s2 => exact rfl
  case s3 => exact fun _ => rfl
  case s4 => exact rfl
  case hes =>
    refine evsg_rel ?mw0 ?hw0 ?nw0 ?sw0
    case sw0 => exact rfl
    case mw0 => exact frAny_mono
    case hw0 => exact ev_kfr (P := fun _ => True) (m := 4) (a := 0) (b := 1) (fun _ => evI_const) (fun _ => evI_const) (kfr_ok rfl) True.intro rfl rfl
    refine evsg_rel ?mw1 ?hw1 ?nw1 ?sw1
    case sw1 => exact rfl
    case mw1 => exact frAny_mono
    case hw1 => exact ev_kfr (P := fun _ => True) (m := 4) (a := 1) (b := 1) (fun _ => evI_const) (fun _ => evI_const) (kfr_ok rfl) True.intro rfl rfl
    refine evsg_rel ?mw2 ?hw2 ?nw2 ?sw2
    case sw2 => exact rfl
    case mw2 => exact frAny_mono
    case hw2 => exact ev_kfr (P := fun _ => True) (m := 4) (a := 3) (b := 1) (fun _ => evI_const) (fun _ => evI_const) (kfr_ok rfl) True.intro rfl rfl
    refine evsg_rel ?mw3 ?hw3 ?nw3 ?sw3
    case sw3 => exact rfl
    case mw3 => exact frAny_mono
    case hw3 => exact ev_kfr (P := fun _ => True) (m := 4) (a := 7) (b := 2) (fun _ => evI_const) (fun _ => evI_const) (kfr_ok rfl) True.intro rfl rfl
    refine evsg_rel ?mw4 ?hw4 ?nw4 ?sw4
    case sw4 => exact rfl
    case mw4 => exact frAny_mono
    case hw4 => exact ev_kfr (P := fun _ => True) (m := 4) (a := -2) (b := 1) (fun _ => evI_neg evI_const) (fun _ => evI_const) (kfr_ok rfl) True.intro rfl rfl
    refine evsg_rel ?mw5 ?hw5 ?nw5 ?sw5
    case sw5 => exact rfl
    case mw5 => exact frAny_mono
    case hw5 => exact ev_kfr (P := fun _ => True) (m := 4) (a := 5) (b := 1) (fun _ => evI_const) (fun _ => evI_const) (kfr_ok rfl) True.intro rfl rfl
    refine evsg_rel ?mw6 ?hw6 ?nw6 ?sw6
    case sw6 => exact rfl
    case mw6 => exact frAny_mono
    case hw6 => exact ev_kfr (P := fun _ => True) (m := 4) (a := -9) (b := 4) (fun _ => evI_neg evI_const) (fun _ => evI_const) (kfr_ok rfl) True.intro rfl rfl
    refine evsg_rel ?mw7 ?hw7 ?nw7 ?sw7
    case sw7 => exact rfl
    case mw7 => exact frAny_mono
    case hw7 => exact ev_kfr (P := fun _ => True) (m := 4) (a := 8) (b := 1) (fun _ => evI_const) (fun _ => evI_const) (kfr_ok rfl) True.intro rfl rfl
    exact evsg_rel0
theorem point_con (W : Wx) (sa : Addr) (o : Obj) (rest : Led) (ho : SrcO o) (hr : ∀ p ∈ rest, p.1 ≠ sa) :
    Con W.w W.mean W.mg W.mb 5 195 ((sa, o) :: rest) [.ref sa] (Drawn sa o rest fun tl v => ∃ q, PtIn tl 4 v q) := by
  refine' con_of [(Str.ofString "source", .ref sa)] (l := [(Str.ofString "source", .ref sa)]) ?ho ?hcd ?hbind ?hloc ?h1 ?h2 ?h3 ?h4 rfl ?_
  case ho => k_is
  case hcd => k_is
  case hbind => exact rfl
  case hloc => exact rfl
  case h1 => exact rfl
  case h2 => exact rfl
  case h3 => exact rfl
  case h4 => decide
  intro C
  refine ex_ret (Ev.weak (ev_tuple (post := fun v n => Som7 fun D o' tl v1 v2 q1 q2 => Amd7 (v = .ref D) (SrcO o') (n = (D, tupO #[v1, v2] 0) :: (sa, o') :: (tl ++ rest)) (AllLt D ((sa, o') :: (tl ++ rest))) (Abv ((sa, o) :: rest) tl) (FrIn tl v1 4 q1) (FrIn tl v2 4 q2)) (P := fun vs n => Som6 fun o' tl v1 v2 q1 q2 => Amd6 (vs = [v1, v2]) (SrcO o') (n = (sa, o') :: (tl ++ rest)) (Abv ((sa, o) :: rest) tl) (FrIn tl v1 4 q1) (FrIn tl v2 4 q2)) (evs_cons (ev_callV (ev_fn (fn_law_number W).1 rfl rfl) (fn_law_number W).2 (evsV_cons (ev_local rfl rfl rfl) evsV_nil) (number_con W sa o rest ho hr) (Nat.le_refl _)) ?_) ?_) ?_)
  · rintro v n ⟨o1, tl, ho1, rfl, ab, q1, f1, _⟩
    have hr1 : ∀ p ∈ tl ++ rest, p.1 ≠ sa := fun p hp => by
      rcases List.mem_append.mp hp with hp | hp
      · exact Nat.ne_of_gt (ab p hp _ (.head _))
      · exact hr p hp
    refine evs_cons (ev_callV (ev_fn (fn_law_number W).1 rfl rfl) (fn_law_number W).2 (evsV_cons (ev_local rfl rfl rfl) evsV_nil) (number_con W sa o1 (tl ++ rest) ho1 hr1) (Nat.le_refl _)) ?_
    rintro v2 n ⟨o2, tl2, ho2, rfl, ab2, q2, f2, _⟩
    refine evs_nil.mono ?_
    rintro vs n ⟨rfl, rfl⟩
    refine ⟨o2, tl2 ++ tl, v, v2, q1, q2, rfl, ho2, by rw [List.append_assoc], ?_, f1.mono fun p hp => mem_app hp, f2.mono fun p hp => mem_l hp⟩
    intro p hp q hq
    rcases List.mem_append.mp hp with hp | hp
    · rcases List.mem_cons.mp hq with rfl | hq
      · exact ab2 p hp (sa, o1) (.head _)
      · exact ab2 p hp q (List.mem_cons_of_mem _ (mem_app hq))
    · exact ab p hp q hq
  · rintro vs n D ⟨o', tl, v1, v2, q1, q2, rfl, ho', rfl, ab, f1, f2⟩ hD
    exact ⟨Nat.le_of_ble_eq_true rfl, D, o', tl, v1, v2, q1, q2, rfl, ho', rfl, hD, ab, f1, f2⟩
  · rintro v n ⟨D, o', tl, v1, v2, q1, q2, rfl, ho', rfl, hD, ab, f1, f2⟩
    refine ⟨(sa, o') :: (((D, tupO #[v1, v2] 0) :: tl) ++ rest), ?_, o', (D, tupO #[v1, v2] 0) :: tl, ho', rfl, ?_, (q1, q2), D, v1, v2, 0, rfl, .head _, f1.mono fun p hp => List.mem_cons_of_mem _ hp, f2.mono fun p hp => List.mem_cons_of_mem _ hp⟩
    · intro p hp
      rcases List.mem_cons.mp hp with rfl | hp
      · exact .tail _ (.head _)
      · rcases List.mem_cons.mp hp with rfl | hp
        · exact .head _
        · exact List.mem_cons_of_mem _ (List.mem_cons_of_mem _ hp)
    · intro p hp q hq
      rcases List.mem_cons.mp hp with rfl | hp
      · rcases List.mem_cons.mp hq with rfl | hq
        · exact ktn_ltOf hD (sa, o') (.head _)
        · exact ktn_ltOf hD q (List.mem_cons_of_mem _ (mem_app hq))
      · exact ab p hp q hq

end Mine

end
section
set_option linter.unusedVariables false
open PySem PySem.W PyProof.Rows PySem.Calls
set_option Elab.async false
set_option maxRecDepth 100000
set_option maxHeartbeats 1000000
namespace Mine
/-- zip over two tuples: the library has it for lists -/
structure ZAp (z TI TO i1 i2 l1 l2 : Addr) : Prop where
  z1 : TI ≠ z
  z2 : TO ≠ z
  z3 : i1 ≠ z
  z4 : i2 ≠ z
  z5 : l1 ≠ z
  z6 : l2 ≠ z
  o1 : TI ≠ TO
  o2 : i1 ≠ TO
  o3 : i2 ≠ TO
  o4 : l1 ≠ TO
  o5 : l2 ≠ TO
  a1 : TI ≠ i1
  a2 : i2 ≠ i1
  a3 : l1 ≠ i1
  a4 : l2 ≠ i1
  b1 : TI ≠ i2
  b2 : l1 ≠ i2
  b3 : l2 ≠ i2
/-- where a zip over two tuples stands -/
structure ZSt (h : Heap) (z TI TO i1 i2 l1 l2 : Addr) (mark : Value) (a b : Value) (k1 k2 : Nat) (xs ys : Array Value) : Prop where
  hz : IsZip h z TI TO mark
  hI : IsPair h TI (.ref i1) (.ref i2)
  hO : IsPair h TO a b
  h1 : h.IsTupleIter i1 l1 k1
  h2 : h.IsTupleIter i2 l2 k2
  t1 : h.IsTuple l1 xs
  t2 : h.IsTuple l2 ys
section
variable {h h' : Heap} {z TI TO i1 i2 l1 l2 : Addr} {mark mark' a b a' b' : Value} {k1 k2 : Nat} {xs ys : Array Value}
theorem tupAt (x : h.IsTuple l1 xs) (e : ∀ o, h.get? l1 = some o → h'.get? l1 = some o) : h'.IsTuple l1 xs := let ⟨o, ho, r⟩ := x; ⟨o, e _ ho, r⟩
/-- all but one of its objects stay -/
theorem ZSt.keeps (S : ZSt h z TI TO i1 i2 l1 l2 mark a b k1 k2 xs ys) (e : ∀ c o, h.get? c = some o → h'.get? c = some o) : ZSt h' z TI TO i1 i2 l1 l2 mark a b k1 k2 xs ys :=
  ⟨e _ _ S.hz, e _ _ S.hI, e _ _ S.hO, S.h1.at fun o => e _ o, S.h2.at fun o => e _ o, tupAt S.t1 fun o => e _ o, tupAt S.t2 fun o => e _ o⟩
theorem ZSt.setZ (D : ZAp z TI TO i1 i2 l1 l2) (S : ZSt h z TI TO i1 i2 l1 l2 mark a b k1 k2 xs ys) (e : Heap.ExtBut z h h') (n : IsZip h' z TI TO mark') : ZSt h' z TI TO i1 i2 l1 l2 mark' a b k1 k2 xs ys :=
  ⟨n, e _ _ D.z1 S.hI, e _ _ D.z2 S.hO, S.h1.at fun o => e _ o D.z3, S.h2.at fun o => e _ o D.z4, tupAt S.t1 fun o => e _ o D.z5, tupAt S.t2 fun o => e _ o D.z6⟩
theorem ZSt.setO (D : ZAp z TI TO i1 i2 l1 l2) (S : ZSt h z TI TO i1 i2 l1 l2 mark a b k1 k2 xs ys) (e : Heap.ExtBut TO h h') (n : IsPair h' TO a' b') : ZSt h' z TI TO i1 i2 l1 l2 mark a' b' k1 k2 xs ys :=
  ⟨e _ _ D.z2.symm S.hz, e _ _ D.o1 S.hI, n, S.h1.at fun o => e _ o D.o2, S.h2.at fun o => e _ o D.o3, tupAt S.t1 fun o => e _ o D.o4, tupAt S.t2 fun o => e _ o D.o5⟩
theorem ZSt.setI {k1' : Nat} (D : ZAp z TI TO i1 i2 l1 l2) (S : ZSt h z TI TO i1 i2 l1 l2 mark a b k1 k2 xs ys) (e : Heap.ExtBut i1 h h') (n : h'.IsTupleIter i1 l1 k1') : ZSt h' z TI TO i1 i2 l1 l2 mark a b k1' k2 xs ys :=
  ⟨e _ _ D.z3.symm S.hz, e _ _ D.a1 S.hI, e _ _ D.o2.symm S.hO, n, S.h2.at fun o => e _ o D.a2, tupAt S.t1 fun o => e _ o D.a3, tupAt S.t2 fun o => e _ o D.a4⟩
theorem ZSt.setJ {k2' : Nat} (D : ZAp z TI TO i1 i2 l1 l2) (S : ZSt h z TI TO i1 i2 l1 l2 mark a b k1 k2 xs ys) (e : Heap.ExtBut i2 h h') (n : h'.IsTupleIter i2 l2 k2') : ZSt h' z TI TO i1 i2 l1 l2 mark a b k1 k2' xs ys :=
  ⟨e _ _ D.z4.symm S.hz, e _ _ D.b1 S.hI, e _ _ D.o3.symm S.hO, S.h1.at fun o => e _ o D.a2.symm, n, tupAt S.t1 fun o => e _ o D.b2, tupAt S.t2 fun o => e _ o D.b3⟩
end
section
variable {prog : Program} {w : World} {A : Around} {E : Value → Shared → Prop} {s : Shared}
theorem tnext_item {it t : Addr} {i : Nat} {items : Array Value} {x : Value} {Q : Value → Shared → Prop} (hit : s.heap.IsTupleIter it t i) (ht : s.heap.IsTuple t items) (hx : items[i]? = some x)
    (hQ : ∀ h', h'.IsTupleIter it t (i + 1) → Heap.SameBut it s.heap h' → Q x { s with heap := h' }) : wpAny (model prog w) A (Builtin.SmallTypes.nextOf (.ref it)) Q E s := by
  obtain ⟨o, ho, hc, hd⟩ := id hit
  obtain ⟨ol, hol, _, nl, hdl⟩ := ht
  unfold Builtin.SmallTypes.nextOf
  refine wpAny_bind (wpAny_callSpecial?_slot (name := Str.ofString "__next__") hit.typeIs F.slot_tuple_iterator_next (wpAny_call_entry F.slot_tuple_iterator_next hit.typeIs F.entry_tuple_iterator_next ?_ (F.args_tuple_iterator_next_1 _)))
  show wpAny _ _ (field (.ref it) 0 >>= _) _ _ s
  refine wpAny_bind (wpAny_field ho hd (x := .ref t) rfl ?_)
  show wpAny _ _ (field (.ref it) 1 >>= _) _ _ s
  refine wpAny_bind (wpAny_field ho hd (x := .int i 0) rfl ?_)
  refine wpAny_bind (wpAny_seqItems hol hdl ?_)
  simp only [Int.toNat_natCast, hx]
  refine wpAny_bind (wpAny_setField ho hd (by simp) (wpAny_pure ⟨x, rfl, wpAny_pure (hQ _ ?_ (Heap.SameBut.update ..))⟩))
  exact ⟨_, Heap.get?_update_self _ ho (Obj.isFreed_of_fields (Obj.data_mapFields hd _)), (Obj.cls_mapFields ..).trans hc, by rw [Obj.data_mapFields hd]; simp [rawInt]⟩
theorem tnext_end {it t : Addr} {i : Nat} {items : Array Value} {Q : Value → Shared → Prop} (hh : A.handled = none) (hit : s.heap.IsTupleIter it t i) (ht : s.heap.IsTuple t items) (hx : items[i]? = none)
    (hE : ∀ h' e, Heap.ExtBut it s.heap h' → (∃ o, h'.get? e = some o ∧ o.cls = .type "StopIteration") → E (.ref e) { s with heap := h' }) : wpAny (model prog w) A (Builtin.SmallTypes.nextOf (.ref it)) Q E s := by
  obtain ⟨o, ho, hc, hd⟩ := id hit
  obtain ⟨ol, hol, _, nl, hdl⟩ := ht
  unfold Builtin.SmallTypes.nextOf
  refine wpAny_bind (wpAny_callSpecial?_slot (name := Str.ofString "__next__") hit.typeIs F.slot_tuple_iterator_next (wpAny_call_entry F.slot_tuple_iterator_next hit.typeIs F.entry_tuple_iterator_next ?_ (F.args_tuple_iterator_next_1 _)))
  show wpAny _ _ (field (.ref it) 0 >>= _) _ _ s
  refine wpAny_bind (wpAny_field ho hd (x := .ref t) rfl ?_)
  show wpAny _ _ (field (.ref it) 1 >>= _) _ _ s
  refine wpAny_bind (wpAny_field ho hd (x := .int i 0) rfl ?_)
  refine wpAny_bind (wpAny_seqItems hol hdl ?_)
  simp only [Int.toNat_natCast, hx]
  refine wpAny_bind (wpAny_rule (wpAny_bind (wpAny_setField ho hd (by simp) ?_)))
  show wpAny _ _ (newExc (.type "StopIteration") [] >>= _) _ _ _
  refine wpAny_bind ?_
  simp only [newExc, newTuple]
  refine wpAny_bind (wpAny_newObj_type ?_ (by size_fits))
  refine wpAny_bind (m := firstArgMember _ _) (wpAny_of_eq (a := Value.none) (by first | rfl | (simp only [firstArgMember]; rfl)) ?_)
  refine wpAny_newObj_type ?_ (by size_fits)
  simp only [raiseNew]
  refine wpAny_bind (wpAny_handled ?_)
  first | rw [show A.in1.handled = none from hh] | rw [hh]
  refine wpAny_bind (wpAny_pure (wpAny_throw ?_))
  exact hE _ _ (((Heap.SameBut.update ..).extBut.push _).push _) ⟨_, Heap.get?_push_size _ rfl, rfl⟩
end

end Mine

end
section
set_option linter.unusedVariables false
open PySem PySem.W PyProof.Rows PySem.Calls
set_option Elab.async false
set_option maxRecDepth 100000
set_option maxHeartbeats 1000000
namespace Mine
section
variable {prog : Program} {w : World} {A : Around} {E : Value → Shared → Prop} {s : Shared} {z TI TO i1 i2 l1 l2 : Addr} {k1 k2 : Nat} {xs ys : Array Value} {x y a b : Value}
/-- one step of a zip over two tuples -/
theorem zt_item {Q : Value → Shared → Prop} (D : ZAp z TI TO i1 i2 l1 l2) (S : ZSt s.heap z TI TO i1 i2 l1 l2 .none a b k1 k2 xs ys) (hx : xs[k1]? = some x) (hy : ys[k2]? = some y)
    (hQ : ∀ h', ZSt h' z TI TO i1 i2 l1 l2 (rawInt s.heap.objs.size) x y (k1 + 1) (k2 + 1) xs ys → IsPair h' s.heap.objs.size x y → (∀ c o, c ≠ z → c ≠ TO → c ≠ i1 → c ≠ i2 → s.heap.get? c = some o → h'.get? c = some o) → Q (.ref s.heap.objs.size) { s with heap := h' }) :
    wpAny (model prog w) A (Builtin.«zip.__next__» ⟨[.ref z], []⟩) (fun fin s' => ∃ v, fin = .done (.ret v) ∧ Q v s') E s := by
  show wpAny _ _ (field (.ref z) 2 >>= _) _ _ _
  refine wpAny_bind (wpAny_field S.hz rfl (x := .bool false) rfl ?_)
  show wpAny _ _ (field (.ref z) 3 >>= _) _ _ _
  refine wpAny_bind (wpAny_field S.hz rfl (x := .ref TI) rfl (wpAny_bind (wpAny_seqItems S.hI rfl ?_)))
  show wpAny _ _ (Builtin.SmallTypes.ownedTupleIsFree (.ref z) >>= _) _ _ _
  unfold Builtin.SmallTypes.ownedTupleIsFree
  refine wpAny_bind (wpAny_bind (wpAny_field S.hz rfl (x := .none) rfl (wpAny_pure ?_)))
  simp only [if_true]
  refine wpAny_bind (wpAny_rule (wpAny_bind (wpAny_field S.hz rfl (x := .ref TO) rfl ?_)))
  refine wpAny_bind (wpAny_setField_rec S.hz (by simp) fun g1 n1 e1 => ?_)
  have S1 := S.setZ (mark' := .ellipsis) D e1.extBut n1
  refine wpAny_bind ?_
  simp only [List.zipIdx_cons, List.zipIdx_nil, List.forIn_cons, List.forIn_nil]
  refine wpAny_bind (wpAny_bind (wpAny_onRaise ?_))
  show wpAny _ _ (Builtin.SmallTypes.nextOf (.ref i1) >>= _) _ _ _
  refine wpAny_bind (tnext_item (s := { s with heap := g1 }) S1.h1 S1.t1 hx fun g2 n2 e2 => wpAny_pure ?_)
  have S2 := S1.setI D e2.extBut n2
  refine wpAny_bind (wpAny_seqItems (s := { s with heap := g2 }) S2.hO rfl (wpAny_bind (wpAny_updateSeq_pair (s := { s with heap := g2 }) S2.hO fun g3 n3 e3 => wpAny_bind (wpAny_letGo (wpAny_pure ?_)))))
  have S3 := S2.setO (a' := x) (b' := b) D e3.extBut n3
  refine wpAny_bind (wpAny_bind (wpAny_onRaise ?_))
  show wpAny _ _ (Builtin.SmallTypes.nextOf (.ref i2) >>= _) _ _ _
  refine wpAny_bind (tnext_item (s := { s with heap := g3 }) S3.h2 S3.t2 hy fun g4 n4 e4 => wpAny_pure ?_)
  have S4 := S3.setJ D e4.extBut n4
  refine wpAny_bind (wpAny_seqItems (s := { s with heap := g4 }) S4.hO rfl (wpAny_bind (wpAny_updateSeq_pair (s := { s with heap := g4 }) S4.hO fun g5 n5 e5 => wpAny_bind (wpAny_letGo (wpAny_pure (wpAny_pure ?_))))))
  have S5 := S4.setO (a' := x) (b' := y) D e5.extBut n5
  refine wpAny_bind (wpAny_seqItems (s := { s with heap := g5 }) S5.hO rfl (wpAny_bind (wpAny_newTuple ?_)))
  have hsz : g5.objs.size = s.heap.objs.size := by rw [e5.1, e4.1, e3.1, e2.1, e1.1]
  have hk : ∀ c o, c ≠ z → c ≠ TO → c ≠ i1 → c ≠ i2 → s.heap.get? c = some o → g5.get? c = some o := fun c o c1 c2 c3 c4 q =>
    e5.extBut _ _ c2 (e4.extBut _ _ c4 (e3.extBut _ _ c2 (e2.extBut _ _ c3 (e1.extBut _ _ c1 q))))
  have hzlt : z < g5.objs.size := Heap.lt_size S5.hz
  show wpAny _ _ (Builtin.SmallTypes.ownedTupleHandOut (.ref z) (.ref g5.objs.size) >>= _) _ _ _
  unfold Builtin.SmallTypes.ownedTupleHandOut
  have S6 : ZSt (g5.push { cls := .type "tuple", data := .seq #[x, y] }) z TI TO i1 i2 l1 l2 .ellipsis x y (k1 + 1) (k2 + 1) xs ys := S5.keeps fun _ _ q => Heap.get?_push_of_some _ q
  refine wpAny_bind (wpAny_bind ?_)
  refine wpAny_setField_rec (s := { s with heap := g5.push { cls := .type "tuple", data := .seq #[x, y] } }) S6.hz (by simp) fun g7 n7 e7 => ?_
  have S7 := S6.setZ (mark' := rawInt g5.objs.size) D e7.extBut n7
  refine wpAny_setField_rec (s := { s with heap := g7 }) S7.hz (by simp) fun g8 n8 e8 => ?_
  have S8 := S7.setZ (mark' := rawInt g5.objs.size) D e8.extBut n8
  have up : ∀ c o, c ≠ z → (g5.push { cls := .type "tuple", data := .seq #[x, y] }).get? c = some o → g8.get? c = some o := fun c o c1 q => e8.extBut _ _ c1 (e7.extBut _ _ c1 q)
  refine wpAny_pure ⟨_, rfl, ?_⟩
  show Q (.ref g5.objs.size) _
  have hT : IsPair g8 g5.objs.size x y := up _ _ (Nat.ne_of_gt hzlt) (Heap.get?_push_size _ rfl)
  rw [hsz] at S8 hT ⊢
  exact hQ g8 S8 hT fun c o c1 c2 c3 c4 q => up c o c1 (Heap.get?_push_of_some _ (hk c o c1 c2 c3 c4 q))
end
section
variable {prog : Program} {w : World} {A : Around} {E : Value → Shared → Prop} {s : Shared} {z TI TO i1 i2 l1 l2 : Addr} {k1 k2 : Nat} {xs ys : Array Value} {x y a b : Value}
theorem zt_end {Q : Fin → Shared → Prop} (hh : A.handled = none) (D : ZAp z TI TO i1 i2 l1 l2) (S : ZSt s.heap z TI TO i1 i2 l1 l2 .none a b k1 k2 xs ys) (hend : xs[k1]? = none ∨ ys[k2]? = none)
    (hE : ∀ h' e, (∀ c o, c ≠ z → c ≠ TO → c ≠ i1 → c ≠ i2 → s.heap.get? c = some o → h'.get? c = some o) → (∃ o, h'.get? e = some o ∧ o.cls = .type "StopIteration") → E (.ref e) { s with heap := h' }) :
    wpAny (model prog w) A (Builtin.«zip.__next__» ⟨[.ref z], []⟩) Q E s := by
  show wpAny _ _ (field (.ref z) 2 >>= _) _ _ _
  refine wpAny_bind (wpAny_field S.hz rfl (x := .bool false) rfl ?_)
  show wpAny _ _ (field (.ref z) 3 >>= _) _ _ _
  refine wpAny_bind (wpAny_field S.hz rfl (x := .ref TI) rfl (wpAny_bind (wpAny_seqItems S.hI rfl ?_)))
  show wpAny _ _ (Builtin.SmallTypes.ownedTupleIsFree (.ref z) >>= _) _ _ _
  unfold Builtin.SmallTypes.ownedTupleIsFree
  refine wpAny_bind (wpAny_bind (wpAny_field S.hz rfl (x := .none) rfl (wpAny_pure ?_)))
  simp only [if_true]
  refine wpAny_bind (wpAny_rule (wpAny_bind (wpAny_field S.hz rfl (x := .ref TO) rfl ?_)))
  refine wpAny_bind (wpAny_setField_rec S.hz (by simp) fun g1 n1 e1 => ?_)
  have S1 := S.setZ (mark' := .ellipsis) D e1.extBut n1
  refine wpAny_bind ?_
  simp only [List.zipIdx_cons, List.zipIdx_nil, List.forIn_cons, List.forIn_nil]
  refine wpAny_bind (wpAny_bind (wpAny_onRaise ?_))
  show wpAny _ _ (Builtin.SmallTypes.nextOf (.ref i1) >>= _) _ _ _
  -- the mark is taken off again, the exception goes on
  have off : ∀ g g' e (m : Value), IsZip g z TI TO m → Heap.ExtBut i2 g g' ∨ Heap.ExtBut i1 g g' → (∃ o, g'.get? e = some o ∧ o.cls = .type "StopIteration") → (∀ c o, c ≠ z → c ≠ TO → c ≠ i1 → c ≠ i2 → s.heap.get? c = some o → g.get? c = some o) →
      wpAny (model prog w) A (setField (.ref z) 0 .none) (fun _ s'' => E (.ref e) s'') E { s with heap := g' } := by
    intro g g' e m hz he ⟨oe, hoe, hce⟩ hk
    have hz' : IsZip g' z TI TO m := by
      rcases he with he | he
      · exact he _ _ D.z4.symm hz
      · exact he _ _ D.z3.symm hz
    have hez : e ≠ z := fun q => by subst q; rw [hz'] at hoe; cases hoe; simp at hce
    refine wpAny_setField_rec (s := { s with heap := g' }) hz' (by simp) fun g3 _ e3 => hE g3 e (fun c o c1 c2 c3 c4 q => ?_) ⟨oe, e3.extBut _ _ hez hoe, hce⟩
    refine e3.extBut _ _ c1 ?_
    rcases he with he | he
    · exact he _ _ c4 (hk c o c1 c2 c3 c4 q)
    · exact he _ _ c3 (hk c o c1 c2 c3 c4 q)
  cases hx : xs[k1]? with
  | none => exact wpAny_bind (tnext_end (s := { s with heap := g1 }) hh S1.h1 S1.t1 hx fun g2 e e2 he => off g1 g2 e _ S1.hz (.inr e2) he fun c o c1 c2 c3 c4 q => e1.extBut _ _ c1 q)
  | some x =>
    have hy : ys[k2]? = none := by
      rcases hend with h | h
      · rw [hx] at h; cases h
      · exact h
    refine wpAny_bind (tnext_item (s := { s with heap := g1 }) S1.h1 S1.t1 hx fun g2 n2 e2 => wpAny_pure ?_)
    have S2 := S1.setI D e2.extBut n2
    refine wpAny_bind (wpAny_seqItems (s := { s with heap := g2 }) S2.hO rfl (wpAny_bind (wpAny_updateSeq_pair (s := { s with heap := g2 }) S2.hO fun g3 n3 e3 => wpAny_bind (wpAny_letGo (wpAny_pure ?_)))))
    have S3 := S2.setO (a' := x) (b' := b) D e3.extBut n3
    refine wpAny_bind (wpAny_bind (wpAny_onRaise ?_))
    show wpAny _ _ (Builtin.SmallTypes.nextOf (.ref i2) >>= _) _ _ _
    exact wpAny_bind (tnext_end (s := { s with heap := g3 }) hh S3.h2 S3.t2 hy fun g4 e e4 he => off g3 g4 e _ S3.hz (.inl e4) he fun c o c1 c2 c3 c4 q => e3.extBut _ _ c2 (e2.extBut _ _ c3 (e1.extBut _ _ c1 q)))
theorem zt_walks (hh : A.handled = none) (z TI TO i1 i2 l1 l2 : Addr) (D : ZAp z TI TO i1 i2 l1 l2) (xs ys : Array Value) :
    WalksT prog w A z [z, TI, TO, i1, i2, l1, l2] [z, TO, i1, i2] (min xs.size ys.size) (fun i vals => Som2 fun x y => Amd3 (xs[i]? = some x) (ys[i]? = some y) (vals = #[x, y]))
      (fun i h => Som2 fun a b => ZSt h z TI TO i1 i2 l1 l2 .none a b i i xs ys) (fun i T h => (Som2 fun a b => ZSt h z TI TO i1 i2 l1 l2 (rawInt T) a b (i + 1) (i + 1) xs ys) ∧ T ∉ [z, TO, i1, i2]) where
  sub := fun c hc => by simp at hc ⊢; rcases hc with rfl | rfl | rfl | rfl <;> simp
  frame := fun i h h' ⟨a, b, S⟩ hk => ⟨a, b, hk z (by simp) _ S.hz, hk TI (by simp) _ S.hI, hk TO (by simp) _ S.hO, S.h1.at fun o => hk i1 (by simp) o, S.h2.at fun o => hk i2 (by simp) o, tupAt S.t1 fun o => hk l1 (by simp) o, tupAt S.t2 fun o => hk l2 (by simp) o⟩
  item := fun i s Q E hi ⟨a, b, S⟩ hQ => by
    have hix : i < xs.size := Nat.lt_of_lt_of_le hi (Nat.min_le_left ..)
    have hiy : i < ys.size := Nat.lt_of_lt_of_le hi (Nat.min_le_right ..)
    have hT : s.TypeIs (.ref z) "zip" := ⟨_, S.hz, rfl⟩
    unfold pyNext
    refine wpAny_bind (wpAny_attempt (wpAny_callSpecial?_slot (name := Str.ofString "__next__") hT F.slot_zip_next (wpAny_call_entry F.slot_zip_next hT F.entry_zip_next (zt_item D S (Array.getElem?_eq_getElem hix) (Array.getElem?_eq_getElem hiy) fun h' S' hp hk => wpAny_pure ?_) (F.args_zip_next_1 _))))
    have lt : ∀ {c o}, s.heap.get? c = some o → s.heap.objs.size ≠ c := fun e => Nat.ne_of_gt (Heap.lt_size e)
    refine hQ s.heap.objs.size #[xs[i], ys[i]] h' s.toks ⟨_, _, Array.getElem?_eq_getElem hix, Array.getElem?_eq_getElem hiy, rfl⟩ (Nat.le_refl _) ⟨_, hp, rfl, _, rfl⟩ ⟨⟨_, _, S'⟩, ?_⟩ fun c o hc e => hk c o (fun x => hc (by simp [x])) (fun x => hc (by simp [x])) (fun x => hc (by simp [x])) (fun x => hc (by simp [x])) e
    intro hm
    obtain ⟨_, g1, _⟩ := S.h1
    obtain ⟨_, g2, _⟩ := S.h2
    simp only [List.mem_cons, List.not_mem_nil, or_false] at hm
    rcases hm with e | e | e | e
    · exact lt S.hz e
    · exact lt S.hO e
    · exact lt g1 e
    · exact lt g2 e
  go := fun elts k pos i T s Q E ⟨⟨a, b, S⟩, _⟩ hQ => by
    refine wpAny_letOwnedTupleGo_zip S.hz fun h' hz' hs' => hQ h' ⟨a, b, S.setZ D hs'.extBut hz'⟩ fun c o hc e => hs'.extBut _ _ (fun x => hc (by simp [x])) e
  apart := fun i T h hm => hm.2
  done := fun s Q E ⟨a, b, S⟩ hQ => by
    have hend : xs[min xs.size ys.size]? = none ∨ ys[min xs.size ys.size]? = none := by
      rcases Nat.le_total xs.size ys.size with h | h
      · exact .inl (by rw [Nat.min_eq_left h]; exact Array.getElem?_eq_none (Nat.le_refl _))
      · exact .inr (by rw [Nat.min_eq_right h]; exact Array.getElem?_eq_none (Nat.le_refl _))
    have hT : s.TypeIs (.ref z) "zip" := ⟨_, S.hz, rfl⟩
    unfold pyNext
    refine wpAny_bind (wpAny_attempt (wpAny_callSpecial?_slot (name := Str.ofString "__next__") hT F.slot_zip_next (wpAny_call_entry F.slot_zip_next hT F.entry_zip_next (zt_end hh D S hend fun h' e hk he => ?_) (F.args_zip_next_1 _))))
    obtain ⟨o, ho, hc⟩ := he
    refine wpAny_bind (wpAny_isInstance (T := "StopIteration") (b := true) ⟨o, ho, hc⟩ isSubtype_stop ?_)
    exact wpAny_pure (hQ _ s.toks fun c o hc e => hk c o (fun x => hc (by simp [x])) (fun x => hc (by simp [x])) (fun x => hc (by simp [x])) (fun x => hc (by simp [x])) e)
  self := fun i s Q E ⟨a, b, S⟩ hQ => wpAny_pyIter_zip S.hz hQ
end

end Mine

end
section
set_option linter.unusedVariables false
open PySem PySem.W PyProof.Rows PySem.Calls
set_option Elab.async false
set_option maxRecDepth 100000
set_option maxHeartbeats 1000000
namespace Mine
noncomputable abbrev zg1 (h : Heap) (l1 : Addr) : Heap := h.push { cls := .type "tuple_iterator", data := .fields #[.ref l1, .int 0 0] }
noncomputable abbrev zg2 (h : Heap) (l1 l2 : Addr) : Heap := (zg1 h l1).push { cls := .type "tuple_iterator", data := .fields #[.ref l2, .int 0 0] }
noncomputable abbrev zg3 (h : Heap) (l1 l2 : Addr) : Heap := (zg2 h l1 l2).push { cls := .type "tuple", data := .seq #[.ref h.objs.size, .ref (zg1 h l1).objs.size] }
noncomputable abbrev zg4 (h : Heap) (l1 l2 : Addr) : Heap := (zg3 h l1 l2).push { cls := .type "tuple", data := .seq #[.none, .none] }
noncomputable abbrev zg5 (h : Heap) (l1 l2 : Addr) : Heap := (zg4 h l1 l2).push { cls := .type "zip", data := .fields #[.none, .bool false, .bool false, .ref (zg2 h l1 l2).objs.size, .ref (zg3 h l1 l2).objs.size] }
theorem zt_new (l1 l2 : Addr) (xs ys : Array Value) :
    Meets (Builtin.«zip.__new__» ⟨[.type "zip", .ref l1, .ref l2], []⟩) (fun _ R s => s.heap.IsTuple l1 xs ∧ s.heap.IsTuple l2 ys ∧ R (.ok (.ret (.ref (zg4 s.heap l1 l2).objs.size))) { s with heap := zg5 s.heap l1 l2 }) :=
  .of_wp fun prog w A R s h => by
    obtain ⟨hp, g, d, tk, os⟩ := s
    obtain ⟨ht1, ht2, h⟩ := h
    have hsub := sub_zip
    have hL1 : Heap.IsTuple (Shared.heap ⟨hp, g, d, tk, os⟩) l1 xs := ht1
    have hL2 : Heap.IsTuple (Shared.heap ⟨hp.push { cls := .type "tuple_iterator", data := .fields #[.ref l1, .int 0 0] }, g, d, tk, os⟩) l2 ys := Heap.IsTuple.push ht2 _
    wp_walk using wpAny_pyIter_tuple hL1, wpAny_pyIter_tuple hL2
    exact ⟨_, rfl, h⟩
section
variable {prog : Program} {w : World} {A : Around} {E : Value → Shared → Prop} {s : Shared}
theorem zt_call {l1 l2 : Addr} {xs ys : Array Value} {Q : Value → Shared → Prop} (h1 : s.heap.IsTuple l1 xs) (h2 : s.heap.IsTuple l2 ys)
    (h : ∀ h', ZSt h' (s.heap.objs.size + 4) (s.heap.objs.size + 2) (s.heap.objs.size + 3) s.heap.objs.size (s.heap.objs.size + 1) l1 l2 .none .none .none 0 0 xs ys → (∀ c o, s.heap.get? c = some o → h'.get? c = some o) → Q (.ref (s.heap.objs.size + 4)) { s with heap := h' }) :
    wpAny (model prog w) A (call (.type "zip") [.ref l1, .ref l2]) Q E s := by
  refine callType_new F.called_zip (by decide) (F.typeCall_zip_2 _ _) (F.newCall_zip_2 _ _) (fun obj => F.args_object_init_3 obj _ _) F.entry_zip_new (zt_new l1 l2 xs ys) ⟨h1, h2, ?_⟩
  have z1 : (zg1 s.heap l1).objs.size = s.heap.objs.size + 1 := Heap.size_push ..
  have z2 : (zg2 s.heap l1 l2).objs.size = s.heap.objs.size + 2 := by rw [Heap.size_push, z1]
  have z3 : (zg3 s.heap l1 l2).objs.size = s.heap.objs.size + 3 := by rw [Heap.size_push, z2]
  have z4 : (zg4 s.heap l1 l2).objs.size = s.heap.objs.size + 4 := by rw [Heap.size_push, z3]
  have u1 : ∀ c o, s.heap.get? c = some o → (zg1 s.heap l1).get? c = some o := fun _ _ x => Heap.get?_push_of_some _ x
  have u2 : ∀ c o, (zg1 s.heap l1).get? c = some o → (zg2 s.heap l1 l2).get? c = some o := fun _ _ x => Heap.get?_push_of_some _ x
  have u3 : ∀ c o, (zg2 s.heap l1 l2).get? c = some o → (zg3 s.heap l1 l2).get? c = some o := fun _ _ x => Heap.get?_push_of_some _ x
  have u4 : ∀ c o, (zg3 s.heap l1 l2).get? c = some o → (zg4 s.heap l1 l2).get? c = some o := fun _ _ x => Heap.get?_push_of_some _ x
  have u5 : ∀ c o, (zg4 s.heap l1 l2).get? c = some o → (zg5 s.heap l1 l2).get? c = some o := fun _ _ x => Heap.get?_push_of_some _ x
  have g5 : (zg5 s.heap l1 l2).get? (zg4 s.heap l1 l2).objs.size = some _ := Heap.get?_push_size _ rfl
  have g4 : (zg5 s.heap l1 l2).get? (zg3 s.heap l1 l2).objs.size = some _ := u5 _ _ (Heap.get?_push_size _ rfl)
  have g3 : (zg5 s.heap l1 l2).get? (zg2 s.heap l1 l2).objs.size = some _ := u5 _ _ (u4 _ _ (Heap.get?_push_size _ rfl))
  have g2 : (zg5 s.heap l1 l2).get? (zg1 s.heap l1).objs.size = some _ := u5 _ _ (u4 _ _ (u3 _ _ (Heap.get?_push_size _ rfl)))
  have g1 : (zg5 s.heap l1 l2).get? s.heap.objs.size = some _ := u5 _ _ (u4 _ _ (u3 _ _ (u2 _ _ (Heap.get?_push_size _ rfl))))
  have up : ∀ c o, s.heap.get? c = some o → (zg5 s.heap l1 l2).get? c = some o := fun c o x => u5 _ _ (u4 _ _ (u3 _ _ (u2 _ _ (u1 _ _ x))))
  show _ ∧ _
  rw [z2, z3, z4] at g5
  rw [z1, z2] at g3
  rw [z3] at g4
  rw [z1] at g2
  rw [z4]
  exact ⟨⟨_, g5, rfl⟩, h _ ⟨g5, g3, g4, ⟨_, g1, rfl, rfl⟩, ⟨_, g2, rfl, rfl⟩, tupAt h1 fun o => up _ o, tupAt h2 fun o => up _ o⟩ up⟩
end
theorem zap_new (I l1 l2 : Nat) (h1 : l1 < I) (h2 : l2 < I) : ZAp (I + 4) (I + 2) (I + 3) I (I + 1) l1 l2 := by
  constructor <;> (refine neN ?_; omega)
section
variable {W : Wx} {room : Nat} {sc : Scope} {cl : List (Str × Addr)} {C : Cx W room sc cl} {l : Bnd} {news : Led}
/-- for p, q in zip(x, x[1:]) -/
theorem itr_zip {a b : PySem.Expr} {p o : Pos} {elts : List PySem.Expr} {k0 : Nat} {p3 : Pos} {r1 : Addr} {vs ws : List Value} {c1 : Nat} {K : Led} (hf : EvV C C.env l news (.Name (Str.ofString "zip") o) (.type "zip")) (ha : EvV C C.env l news a (.ref r1)) (hm : (r1, tupO vs.toArray c1) ∈ news) (hmK : (r1, tupO vs.toArray c1) ∈ K) (hK : ∀ p ∈ K, p ∈ news)
    (hb : Ev C C.env l news b (fun v n => ∃ D, Amd3 (v = .ref D) (n = (D, tupO ws.toArray 0) :: news) (AllLt D news)))
    (he1 : starEach [a, b] C.env = (false, eval a C.env) :: starEach [b] C.env) (he2 : starEach [b] C.env = (false, eval b C.env) :: starEach [] C.env) (hplain : ∀ pos, (backTo pos (starEach [b] C.env)).any (·.1) = false)
    (hst : eval (.Call (.Name (Str.ofString "zip") o) [a, b] [] p) C.env = (do callWith p (← eval (.Name (Str.ofString "zip") o) C.env) [] (backTo p (starEach [a, b] C.env)) (backToKw p (keywordEach [] C.env)))) :
    Itr C l news (.Call (.Name (Str.ofString "zip") o) [a, b] [] p) (.Tuple elts k0 p3) (zipItems vs ws) K :=
  fun body E Q s F N k => Call_ (hf E _ s F N fun v n h' tk F' N' ⟨e1, e2⟩ => by
    subst e1; subst e2
    refine PyProof.Rows.callWith_type1 (spliced_more (ha E _ _ F' N' fun v n g2 tk2 F2 N2 ⟨a3, a4⟩ => ?_) he1) he1 (hplain p)
    subst a3; subst a4
    refine spliced_more (hb E _ _ F2 N2 fun v n' g3 tk3 F3 N3 ⟨D, a5, a6, hD⟩ => ?_) he2
    subst a5; subst a6
    refine spliced_none ?_
    have hm3 : (r1, tupO vs.toArray c1) ∈ (D, tupO ws.toArray 0) :: n := List.mem_cons_of_mem _ hm
    have x1 := N3 _ hm3
    have x2 := N3 (D, tupO ws.toArray 0) (.head _)
    have lt : ∀ p ∈ (D, tupO ws.toArray 0) :: n, p.1 < g3.objs.size := fun p hp => Heap.lt_size (N3 p hp).1
    have lt1 : r1 < g3.objs.size := lt _ hm3
    have lt2 : D < g3.objs.size := lt _ (.head _)
    have hLs : C.env.locals < g3.objs.size := F3.ns.lt
    have Dd := zap_new g3.objs.size r1 D lt1 lt2
    refine zt_call (s := { s with heap := g3, toks := tk3 }) (xs := vs.toArray) (ys := ws.toArray) ⟨_, x1.1, rfl, c1, rfl⟩ ⟨_, x2.1, rfl, 0, rfl⟩ fun h4 S hk => ?_
    refine wpAny_pyIter_zip (s := { s with heap := h4, toks := tk3 }) S.hz ?_
    refine ktu_core (s := { s with heap := g3, toks := tk3 }) (hp := h4) (tk0 := tk3) (ws := [(g3.objs.size + 4, "zip"), (g3.objs.size + 2, "tuple"), (g3.objs.size + 3, "tuple"), (g3.objs.size, "tuple_iterator"), (g3.objs.size + 1, "tuple_iterator")]) (keep := [(r1, tupO vs.toArray c1), (D, tupO ws.toArray 0)]) (news := (D, tupO ws.toArray 0) :: n) (xs := zipItems vs ws)
      (KTurns.ofWalksU (zt_walks rfl _ _ _ _ _ _ _ Dd vs.toArray ws.toArray).toU) (by simp [zipItems_length]) ?_ ?_ ?_ ?_ ?_ ?_ ?_ ⟨_, _, S⟩ (F3.keeps hk) (N3.grown hk) ⟨hm3, .head _, True.intro⟩ (k [(D, tupO ws.toArray 0)] _ _ g3 tk3 (Abv.cons hD Abv.nil) ?_ ?_)
    · rintro i v h ⟨T, vals, rfl, ⟨x, y, hx, hy, rfl⟩, hT⟩
      exact ⟨_, zipItems_get vs ws i (x := x) (y := y) (by simpa using hx) (by simpa using hy), T, 0, rfl, hT⟩
    · rintro i h ⟨a, b, S⟩
      obtain ⟨o1, ho1, hc1, _⟩ := S.h1
      obtain ⟨o2, ho2, hc2, _⟩ := S.h2
      obtain ⟨q1, f1, d1⟩ : ∃ o : Obj, h.get? (g3.objs.size + 4) = some o ∧ o.cls = .type "zip" := ⟨_, S.hz, rfl⟩
      obtain ⟨q2, f2, d2⟩ : ∃ o : Obj, h.get? (g3.objs.size + 2) = some o ∧ o.cls = .type "tuple" := ⟨_, S.hI, rfl⟩
      obtain ⟨q3, f3, d3⟩ : ∃ o : Obj, h.get? (g3.objs.size + 3) = some o ∧ o.cls = .type "tuple" := ⟨_, S.hO, rfl⟩
      refine ⟨[(g3.objs.size + 4, q1), (g3.objs.size + 2, q2), (g3.objs.size + 3, q3), (g3.objs.size, o1), (g3.objs.size + 1, o2)], ⟨⟨rfl, d1⟩, ⟨rfl, d2⟩, ⟨rfl, d3⟩, ⟨rfl, hc1⟩, ⟨rfl, hc2⟩, True.intro⟩, ?_⟩
      exact List.forall_mem_cons.mpr ⟨f1, List.forall_mem_cons.mpr ⟨f2, List.forall_mem_cons.mpr ⟨f3, List.forall_mem_cons.mpr ⟨ho1, List.forall_mem_cons.mpr ⟨ho2, fun _ h => nomatch h⟩⟩⟩⟩⟩
    · intro b hb
      have hb' : b = g3.objs.size + 4 ∨ b = g3.objs.size + 2 ∨ b = g3.objs.size + 3 ∨ b = g3.objs.size ∨ b = g3.objs.size + 1 := by simpa using hb
      rcases hb' with rfl | rfl | rfl | rfl | rfl
      · exact ⟨by simp, ktu_new F3 (Nat.le_add_right _ _)⟩
      · exact ⟨by simp, ktu_new F3 (Nat.le_add_right _ _)⟩
      · exact ⟨by simp, ktu_new F3 (Nat.le_add_right _ _)⟩
      · exact ⟨by simp, ktu_new F3 (Nat.le_refl _)⟩
      · exact ⟨by simp, ktu_new F3 (Nat.le_add_right _ _)⟩
    · intro b hb
      have hb' : b = g3.objs.size + 4 ∨ b = g3.objs.size + 3 ∨ b = g3.objs.size ∨ b = g3.objs.size + 1 := by simpa using hb
      rcases hb' with rfl | rfl | rfl | rfl <;> simp
    · intro b hb
      have hb' : b = g3.objs.size + 4 ∨ b = g3.objs.size + 2 ∨ b = g3.objs.size + 3 ∨ b = g3.objs.size ∨ b = g3.objs.size + 1 ∨ b = r1 ∨ b = D := by simpa using hb
      rcases hb' with rfl | rfl | rfl | rfl | rfl | rfl | rfl
      · exact .inl (by simp)
      · exact .inl (by simp)
      · exact .inl (by simp)
      · exact .inl (by simp)
      · exact .inl (by simp)
      · exact .inr ⟨_, .head _⟩
      · exact .inr ⟨_, .tail _ (.head _)⟩
    · intro hI
      have hb' : C.env.locals = g3.objs.size + 4 ∨ C.env.locals = g3.objs.size + 2 ∨ C.env.locals = g3.objs.size + 3 ∨ C.env.locals = g3.objs.size ∨ C.env.locals = g3.objs.size + 1 ∨ C.env.locals = r1 ∨ C.env.locals = D := by simpa using hI
      rcases hb' with e | e | e | e | e | e | e
      · exact ktu_ne 4 hLs e
      · exact ktu_ne 2 hLs e
      · exact ktu_ne 3 hLs e
      · exact Nat.ne_of_lt hLs e
      · exact ktu_ne 1 hLs e
      · exact x1.2.1 e.symm
      · exact x2.2.1 e.symm
    · intro p hp hI
      have hb' : p.1 = g3.objs.size + 4 ∨ p.1 = g3.objs.size + 3 ∨ p.1 = g3.objs.size ∨ p.1 = g3.objs.size + 1 := by simpa using hI
      have hlp := lt p hp
      rcases hb' with e | e | e | e
      · exact ktu_ne 4 hlp e
      · exact ktu_ne 3 hlp e
      · exact Nat.ne_of_lt hlp e
      · exact ktu_ne 1 hlp e
    · exact List.forall_mem_cons.mpr ⟨.tail _ hmK, List.forall_mem_cons.mpr ⟨.head _, fun _ h => nomatch h⟩⟩
    · intro p hp w hw
      have hlp := lt p hp
      simp only [List.mem_cons, List.not_mem_nil, or_false] at hw
      rcases hw with rfl | rfl | rfl | rfl | rfl
      · exact ktu_ne 4 hlp
      · exact ktu_ne 2 hlp
      · exact ktu_ne 3 hlp
      · exact Nat.ne_of_lt hlp
      · exact ktu_ne 1 hlp) hst
end

end Mine

end
section
set_option linter.unusedVariables false
open PySem PySem.W PyProof.Rows PySem.Calls
set_option Elab.async false
set_option maxRecDepth 100000
set_option maxHeartbeats 1000000
namespace Mine
section
variable {W : Wx} {room : Nat} {sc : Scope} {cl : List (Str × Addr)} {C : Cx W room sc cl} {en : Env} {l : Bnd} {news : Led}
/-- times(t, minus(q, p)) -/
theorem dm_co {e2 e3 e4 : PySem.Expr} {p2 p3 o2 o3 : Pos} {vp vq vt : Value} {p q t : Rat} {m k : Nat} (hroom : 121 ≤ room) (f2 : ∀ n, EvV C en l n (.Name (Str.ofString "times") o2) (.ref 101)) (f3 : ∀ n, EvV C en l n (.Name (Str.ofString "minus") o3) (.ref 94)) (h2 : EvV C en l news e2 vt) (h3 : EvV C en l news e3 vq) (h4 : EvV C en l news e4 vp)
    (hp : FrIn news vp m p) (hq : FrIn news vq m q) (ht : FrIn news vt k t) (hs : k + (m + m + 1) ≤ 67108864)
    (a2 : starEach [e2, .Call (.Name (Str.ofString "minus") o3) [e3, e4] [] p3] en = (false, eval e2 en) :: starEach [.Call (.Name (Str.ofString "minus") o3) [e3, e4] [] p3] en)
    (a1 : starEach [.Call (.Name (Str.ofString "minus") o3) [e3, e4] [] p3] en = (false, eval (.Call (.Name (Str.ofString "minus") o3) [e3, e4] [] p3) en) :: starEach [] en)
    (a0 : ∀ pos, (backTo pos (starEach [.Call (.Name (Str.ofString "minus") o3) [e3, e4] [] p3] en)).any (·.1) = false)
    (a3 : starEach [e3, e4] en = (false, eval e3 en) :: starEach [e4] en) (a4 : starEach [e4] en = (false, eval e4 en) :: starEach [] en) (a5 : ∀ pos, (backTo pos (starEach [e4] en)).any (·.1) = false)
    (s1 : eval (.Call (.Name (Str.ofString "minus") o3) [e3, e4] [] p3) en = (do callWith p3 (← eval (.Name (Str.ofString "minus") o3) en) [] (backTo p3 (starEach [e3, e4] en)) (backToKw p3 (keywordEach [] en))))
    (s2 : eval (.Call (.Name (Str.ofString "times") o2) [e2, .Call (.Name (Str.ofString "minus") o3) [e3, e4] [] p3] [] p2) en = (do callWith p2 (← eval (.Name (Str.ofString "times") o2) en) [] (backTo p2 (starEach [e2, .Call (.Name (Str.ofString "minus") o3) [e3, e4] [] p3] en)) (backToKw p2 (keywordEach [] en)))) :
    Ev C en l news (.Call (.Name (Str.ofString "times") o2) [e2, .Call (.Name (Str.ofString "minus") o3) [e3, e4] [] p3] [] p2) (Gr news (fun tl r => FrIn tl r (k + (m + m + 1)) (t * (q - p)))) := by
  have g1 := sm_sub hq.sm hp.sm
  have g2 := sm_mul ht.sm g1
  refine ev_callVE (P := Gr news fun tl r => FrIn tl r (m + m + 1) (q - p)) (fn_times W).2 (f2 _) h2 (ev_callVV (fn_minus W).2 (f3 _) h3 h4 ((minus_con W _ _ _ _ _ _ _ hq hp (by omega)).mono fun r n h => fr_post g1 h) hroom a3 a4 a5 s1) ?_ hroom a2 a1 a0 s2
  rintro y n ⟨tl, rfl, ab, hy⟩
  refine (times_con W _ _ _ _ _ _ _ (ht.mono fun p hp => mem_app hp) (hy.mono fun p hp => mem_l hp) hs).mono fun r n h => ?_
  obtain ⟨tl2, rfl, ab2, hr⟩ := fr_post g2 h
  exact ⟨tl2 ++ tl, (List.append_assoc _ _ _).symm, ab.app ab2, hr.mono fun p hp => mem_l hp⟩
/-- a point made of two fractions made -/
theorem ev_ptG {es : List PySem.Expr} {k0 : Nat} {p : Pos} {m : Nat} {q : Pt} (h : Evs C en l news es (GrL news fun tl vs => Som2 fun v1 v2 => Amd3 (vs = [v1, v2]) (FrIn tl v1 m q.1) (FrIn tl v2 m q.2))) : Ev C en l news (.Tuple es k0 p) (Gr news fun tl r => PtIn tl m r q) :=
  ev_tuple h fun vs n D ⟨tl, e1, ab, v1, v2, e2, f1, f2⟩ hD => by
    subst e1; subst e2
    exact ⟨Nat.le_of_ble_eq_true rfl, (D, tupO #[v1, v2] 0) :: tl, rfl, Abv.cons hD ab, D, v1, v2, 0, rfl, .head _, f1.mono fun p hp => List.mem_cons_of_mem _ hp, f2.mono fun p hp => List.mem_cons_of_mem _ hp⟩
end
theorem zip_get : ∀ {xs ys : List Value} {i : Nat} {a : Itm}, (zipItems xs ys)[i]? = some a → Som2 fun x y => Amd3 (xs[i]? = some x) (ys[i]? = some y) (a = .pair (fun _ => x) y)
  | [], _, _, _, h => by simp [zipItems] at h
  | _ :: _, [], _, _, h => by simp [zipItems] at h
  | x :: r, y :: q, 0, a, h => ⟨x, y, rfl, rfl, (Option.some.inj h).symm⟩
  | x :: r, y :: q, i + 1, a, h => by
    obtain ⟨x', y', h1, h2, h3⟩ := zip_get (xs := r) (ys := q) (i := i) (a := a) h
    exact ⟨x', y', h1, h2, h3⟩
noncomputable def derPt (d : Rat) (p q : Pt) : Pt := (d * (q.1 - p.1), d * (q.2 - p.2))
noncomputable def derP (ps : List Pt) : List Pt := (List.range (ps.length - 1)).map fun i => derPt (Rat.divInt ((ps.length : Int) - 1) 1) (ps.getD i Z2) (ps.getD (i + 1) Z2)
theorem range_get {β : Type} {n i : Nat} {f : Nat → β} {b : β} (h : ((List.range n).map f)[i]? = some b) : i < n ∧ b = f i := by
  rw [List.getElem?_map, Option.map_eq_some_iff] at h
  obtain ⟨j, hj, e⟩ := h
  obtain ⟨hlt, e2⟩ := List.getElem?_eq_some_iff.mp hj
  rw [List.getElem_range] at e2
  subst e2
  exact ⟨by simpa using hlt, e.symm⟩
noncomputable def derB (m : Nat) : Nat := 2 + (m + m + 1)
theorem derivative_con (W : Wx) (news) (vc : Value) (ps : List Pt) (m : Nat) (hp : CvIn news m vc ps) (h2 : 2 ≤ ps.length) (h4 : ps.length ≤ 4) (hb : derB m ≤ 67108864) :
    Con W.w W.mean W.mg W.mb 122 160 news [vc] (Gr news fun tl r => CvIn (tl ++ news) (derB m) r (derP ps)) := by
  obtain ⟨rc, vs, cc, rfl, hm, hl, ha⟩ := hp.at
  have hvl : vs.length ≤ 16384 := by rw [hl]; exact Nat.le_trans h4 (by decide)
  have hsm : Sm 2 (Rat.divInt ((ps.length : Int) - 1) 1) := by
    refine sm_fr (by decide) ?_ (by decide)
    obtain ⟨d, hd⟩ : ∃ d, ps.length = d + 1 := ⟨ps.length - 1, by omega⟩
    rw [show ((ps.length : Int) - 1) = (d : Int) by omega]
    rcases d with _ | _ | _ | _ | d
    all_goals first | decide | omega
  refine' con_of [(Str.ofString "curve", .ref rc)] (l := [(Str.ofString "curve", .ref rc)]) ?ho ?hcd ?hbind ?hloc ?h1 ?h2 ?h3 ?h4 rfl ?_
  case ho => k_is
  case hcd => k_is
  case hbind => exact rfl
  case hloc => exact rfl
  case h1 => exact rfl
  case h2 => exact rfl
  case h3 => exact rfl
  case h4 => decide
  intro C
  refine ex_set (P := Gr news fun tl r => FrIn tl r 2 (Rat.divInt ((ps.length : Int) - 1) 1)) ?m1 ?m2 ?m3 ?m4
  case m2 => exact rfl
  case m3 => exact rfl
  case m1 =>
    refine ev_call (P := fun us n => ∃ t, us = [.int ((ps.length : Int) - 1) t] ∧ n = news) (cost := 120) (ev_fn (fn_fraction W).1 rfl rfl) (fn_fraction W).2 (evs_cons (evI_sub (ev_lenV (ev_ty (bi_len W)) (ev_local rfl rfl rfl) (seqT hm) hl (hl ▸ hvl)) evI_const) ?_) ?_ (by decide)
    · rintro v n ⟨⟨t, rfl⟩, rfl⟩
      refine evs_nil.mono ?_
      rintro us n ⟨rfl, rfl⟩
      exact ⟨t, rfl, rfl⟩
    · rintro us n ⟨t, rfl, rfl⟩
      exact (fraction_one W _ _ t).mono fun r n h => fr_post hsm h
  case m4 =>
    rintro vd n ⟨tl0, rfl, ab0, hvd⟩
    refine ex_set (P := fun v n' => ∃ R, Amd3 (v = .ref R) (n' = (R, listOf ([] : List Value).toArray 0) :: (tl0 ++ news)) (AllLt R (tl0 ++ news))) ?f1 ?f2 ?f3 ?f4
    case f2 => exact rfl
    case f3 => exact rfl
    case f1 =>
      refine ev_list (P := fun us n' => us = [] ∧ n' = tl0 ++ news) evs_nil ?_
      rintro us n' D ⟨rfl, rfl⟩ hD
      exact ⟨by simp, D, rfl, rfl, hD⟩
    case f4 =>
      rintro v n ⟨R, rfl, rfl, hR⟩
      refine ex_forApp (fun n v b => PtIn n (derB m) v b) (fun n n' v b hs h => h.mono hs) (derP ps) (zipItems vs (vs.drop 1)) (tl0 ++ news) R [] 0 (fun l' => look l' (Str.ofString "many") = some vd ∧ look l' (Str.ofString "found") = some (.ref R)) ?hI ?hK ?hR2 ?hL ?h0 ?hlen ?turn ?fin
      case hI =>
        refine itr_zip (r1 := rc) (vs := vs) (ws := vs.drop 1) (c1 := cc) (ev_ty (bi_zip W)) (ev_local rfl rfl rfl) (List.mem_cons_of_mem _ (mem_app hm)) (mem_app hm) (fun p hp => List.mem_cons_of_mem _ hp) ?_ rfl rfl (fun _ => rfl) rfl
        exact ev_from1 (c := cc) (ev_local rfl rfl rfl) evI_const (List.mem_cons_of_mem _ (mem_app hm)) hvl (hl ▸ Nat.le_of_succ_le h2) (fun r i => by with_unfolding_all rfl) (fun _ _ => rfl)
      case hK => exact fun p hp => hp
      case hR2 => exact fun p hp => Nat.ne_of_lt (ktn_ltOf hR p hp)
      case hL => exact ⟨rfl, rfl⟩
      case h0 => exact True.intro
      case hlen =>
        unfold derP
        rw [zipItems_length, List.length_map, List.length_range, List.length_drop, hl]
        rw [Nat.min_eq_right (Nat.sub_le _ _)]
        exact (Nat.zero_add _).symm
      case fin =>
        rintro l' ys c tl ⟨k1, k2⟩ hall ab hne
        have hyl := hall.len
        refine ex_ret (ev_tupL (ev_ty (bi_tuple W)) (ev_local k2 rfl rfl) ?_)
        rintro v n ⟨rfl, rfl⟩
        refine ⟨R, ys, c, rfl, .head _, by rw [hyl]; unfold derP; rw [List.length_map, List.length_range]; exact Nat.le_trans (Nat.sub_le _ _) (Nat.le_trans h4 (by decide)), fun D hD => ⟨(D, tupO ys.toArray 0) :: (R, listOf ys.toArray c) :: (tl ++ tl0), ?_, ?_, D, ys, 0, rfl, .head _, hall.mono fun _ _ h => h.mono fun p hp => ?_⟩⟩
        · exact congrArg (fun z => (D, tupO ys.toArray 0) :: (R, listOf ys.toArray c) :: z) (List.append_assoc _ _ _).symm
        · rw [← List.append_assoc] at hD
          exact Abv.cons hD (fun p hp q hq => by
            rcases List.mem_cons.mp hp with rfl | hp
            · exact ktn_ltOf hR q (mem_app hq)
            · rcases List.mem_append.mp hp with hp | hp
              · exact ab p hp q (mem_app hq)
              · exact ab0 p hp q hq)
        · exact List.mem_cons_of_mem _ (List.mem_cons_of_mem _ (by show p ∈ (tl ++ tl0) ++ news; rw [List.append_assoc]; exact hp))
      case turn =>
        rintro ext i a b l' n its ys c tl hi hb' ⟨k1, k2⟩ hy hS hap
        obtain ⟨x, y, hx, hy2, rfl⟩ := zip_get hi
        rw [show ([] : List Value).length + i = i from Nat.zero_add i] at hb'
        obtain ⟨hlt, hbe⟩ := range_get (f := fun i => derPt (Rat.divInt ((ps.length : Int) - 1) 1) (ps.getD i Z2) (ps.getD (i + 1) Z2)) hb'
        rw [List.getElem?_drop, Nat.add_comm] at hy2
        obtain ⟨p0, hp0, lx, vx1, vx2, cx, rfl, hmx, fx1, fx2⟩ := ha.get i x hx
        obtain ⟨p1, hp1, ly, vy1, vy2, cy, rfl, hmy, fy1, fy2⟩ := ha.get (i + 1) y hy2
        have e0 : ps.getD i Z2 = p0 := by rw [List.getD_eq_getElem?_getD, hp0]; rfl
        have e1 : ps.getD (i + 1) Z2 = p1 := by rw [List.getD_eq_getElem?_getD, hp1]; rfl
        rw [e0, e1] at hbe
        subst hbe
        have hsub : ∀ p ∈ tl0 ++ news, p ∈ its ++ n := fun p hp => mem_app (hS.1 p (.tail _ (mem_app (mem_app hp))))
        have hsn : ∀ p ∈ news, p ∈ its ++ n := fun p hp => hsub p (mem_app hp)
        refine trn_zip rfl rfl fun t => ?_
        refine ex_appL hS hap (by rw [hy]; show 0 + i ≤ _; rw [Nat.zero_add]; exact Nat.le_trans (Nat.le_of_lt hlt) (Nat.le_trans (Nat.sub_le _ _) (Nat.le_trans h4 (by decide)))) (ev_local ((look_tail rfl).trans ((look_tail rfl).trans k2)) rfl rfl) ?_
        refine (ev_ptG (m := derB m) (q := derPt (Rat.divInt ((ps.length : Int) - 1) 1) p0 p1) ?_).mono fun r n h => ?_
        · refine evsg_cons (P1 := fun tl v => FrIn tl v (derB m) (Rat.divInt ((ps.length : Int) - 1) 1 * (p1.1 - p0.1))) ?d1 ?d2 ?d3
          case d3 => exact rfl
          case d1 => exact dm_co (by decide) (fun _ => ev_fn (fn_times W).1 rfl rfl) (fun _ => ev_fn (fn_minus W).1 rfl rfl) (ev_local ((look_tail rfl).trans ((look_tail rfl).trans k1)) rfl rfl) (ev_subV (k := 0) (r := ly) (vs := [vy1, vy2]) (ev_local look_head rfl rfl) evI_const (seqT (hsn _ hmy)) (At.of (by decide) rfl) (by decide) (by decide)) (ev_subV (k := 0) (r := lx) (vs := [vx1, vx2]) (ev_local ((look_tail rfl).trans look_head) rfl rfl) evI_const (seqT (hsn _ hmx)) (At.of (by decide) rfl) (by decide) (by decide)) (fx1.mono hsn) (fy1.mono hsn) (hvd.mono fun p hp => hsub p (mem_l hp)) hb rfl rfl (fun _ => rfl) rfl rfl (fun _ => rfl) rfl rfl
          case d2 =>
            intro tl2 w ab2 hw
            refine evsg_cons (P1 := fun tl v => FrIn tl v (derB m) (Rat.divInt ((ps.length : Int) - 1) 1 * (p1.2 - p0.2))) ?d4 ?d5 ?d6
            case d6 => exact rfl
            case d4 => exact dm_co (by decide) (fun _ => ev_fn (fn_times W).1 rfl rfl) (fun _ => ev_fn (fn_minus W).1 rfl rfl) (ev_local ((look_tail rfl).trans ((look_tail rfl).trans k1)) rfl rfl) (ev_subV (k := 1) (r := ly) (vs := [vy1, vy2]) (ev_local look_head rfl rfl) evI_const (seqT (mem_app (hsn _ hmy))) (At.of (by decide) rfl) (by decide) (by decide)) (ev_subV (k := 1) (r := lx) (vs := [vx1, vx2]) (ev_local ((look_tail rfl).trans look_head) rfl rfl) evI_const (seqT (mem_app (hsn _ hmx))) (At.of (by decide) rfl) (by decide) (by decide)) (fx2.mono fun p hp => mem_app (hsn p hp)) (fy2.mono fun p hp => mem_app (hsn p hp)) (hvd.mono fun p hp => mem_app (hsub p (mem_l hp))) hb rfl rfl (fun _ => rfl) rfl rfl (fun _ => rfl) rfl rfl
            case d5 =>
              intro tl3 w3 ab3 hw3
              exact evsg_nil ⟨w, w3, rfl, hw.mono fun p hp => mem_app hp, hw3.mono fun p hp => mem_l hp⟩
        · obtain ⟨tl2, e, ab2, h⟩ := h
          exact ⟨tl2, e, ab2, ⟨(look_tail rfl).trans ((look_tail rfl).trans k1), (look_tail rfl).trans ((look_tail rfl).trans k2)⟩, h⟩

end Mine

end
section
set_option linter.unusedVariables false
open PySem PySem.W PyProof.Rows PySem.Calls
set_option Elab.async false
set_option maxRecDepth 100000
set_option maxHeartbeats 1000000
namespace Mine
section
variable {W : Wx} {room : Nat} {sc : Scope} {cl : List (Str × Addr)} {C : Cx W room sc cl} {en : Env} {l : Bnd} {news : Led}
/-- the first point, the last point of a curve -/
theorem ev_hd {e : PySem.Expr} {v : Value} {m k : Nat} {ps : List Pt} {p1 p2 : Pos} (he : EvV C en l news e v) (hc : CvIn news m v ps) (hne : ps ≠ []) : Ev C en l news (.Subscript e (.Constant (.int 0) k p1) p2) (fun w n => n = news ∧ PtIn news m w (hd2 ps)) := by
  obtain ⟨r, vs, c, rfl, hm, _, ha⟩ := hc.at
  obtain ⟨x, hx, hp⟩ := ha.get' 0 _ (hd_of hne)
  exact (ev_subV he evI_const (seqT hm) (At.of (k := 0) (by decide) hx) (by decide) (by decide)).mono fun w n ⟨e1, e2⟩ => ⟨e2, e1 ▸ hp⟩
theorem ev_la {e : PySem.Expr} {v : Value} {m k : Nat} {ps : List Pt} {p1 p2 p3 : Pos} (he : EvV C en l news e v) (hc : CvIn news m v ps) (hne : ps ≠ []) : Ev C en l news (.Subscript e (.UnaryOp .USub (.Constant (.int 1) k p1) p3) p2) (fun w n => n = news ∧ PtIn news m w (la2 ps)) := by
  obtain ⟨r, vs, c, rfl, hm, _, ha⟩ := hc.at
  obtain ⟨x, hx, hp⟩ := ha.last (la_of hne)
  exact (ev_subV he (evI_neg evI_const) (seqT hm) (At.last hx) (by decide) (by decide)).mono fun w n ⟨e1, e2⟩ => ⟨e2, e1 ▸ hp⟩
/-- two points without making anything: the test of unlikeness fails -/
theorem tst_ptV {a b : PySem.Expr} {p : Pos} {m1 m2 : Nat} {q1 q2 : Pt} (h8 : 8 ≤ room) (ha : Ev C en l news a (fun w n => n = news ∧ PtIn news m1 w q1)) (hb : Ev C en l news b (fun w n => n = news ∧ PtIn news m2 w q2)) (hq : q1 = q2) (hm : behindInMarks .NotEq b = false) : Tst C en l news (.Compare a [.NotEq] [b] p) (fun c n => c = false ∧ n = news) :=
  tst_pt h8 ha (fun v n ⟨e1, h1⟩ => by
    subst e1
    exact hb.mono fun w n' ⟨e2, h2⟩ => by
      subst e2; subst hq
      exact ⟨⟨m1, m2, q1, h1, h2⟩, rfl⟩) rfl hm
/-- a call of _law_at upon what the ledger bears -/
theorem ev_lawAt {e1 e2 : PySem.Expr} {o p : Pos} {vc vt : Value} {ps : List Pt} {t : Rat} {m k : Nat} {base : Led} (hroom : 122 ≤ room) (hf : EvV C en l base (.Name (Str.ofString "_law_at") o) (.ref 216)) (h1 : EvV C en l base e1 vc) (h2 : EvV C en l base e2 vt) (hp : CvIn base m vc ps) (ht : FrIn base vt k t) (hl1 : 1 ≤ ps.length) (hl4 : ps.length ≤ 4) (hm1 : 1 ≤ m) (hb : 1 + ps.length * (termB m k + 1) + termB m k ≤ 67108864)
    (he1 : starEach [e1, e2] en = (false, eval e1 en) :: starEach [e2] en) (he2 : starEach [e2] en = (false, eval e2 en) :: starEach [] en) (hplain : ∀ pos, (backTo pos (starEach [e2] en)).any (·.1) = false)
    (hst : eval (.Call (.Name (Str.ofString "_law_at") o) [e1, e2] [] p) en = (do callWith p (← eval (.Name (Str.ofString "_law_at") o) en) [] (backTo p (starEach [e1, e2] en)) (backToKw p (keywordEach [] en)))) :
    Ev C en l base (.Call (.Name (Str.ofString "_law_at") o) [e1, e2] [] p) (Gr base fun tl r => PtIn (tl ++ base) (1 + ps.length * (termB m k + 1)) r (lawAt ps t)) :=
  ev_callVV (fn_law_at W).2 hf h1 h2 (law_at_con W _ _ _ _ _ _ _ hp ht hl1 hl4 hm1 hb) hroom he1 he2 hplain hst
/-- the same, the share made by the second argument -/
theorem ev_lawAtE {e1 e2 : PySem.Expr} {o p : Pos} {vc : Value} {ps : List Pt} {t : Rat} {m k : Nat} {base : Led} (hroom : 122 ≤ room) (hf : EvV C en l base (.Name (Str.ofString "_law_at") o) (.ref 216)) (h1 : EvV C en l base e1 vc) (h2 : Ev C en l base e2 (Gr base fun tl r => FrIn (tl ++ base) r k t)) (hp : CvIn base m vc ps) (hl1 : 1 ≤ ps.length) (hl4 : ps.length ≤ 4) (hm1 : 1 ≤ m) (hb : 1 + ps.length * (termB m k + 1) + termB m k ≤ 67108864)
    (he1 : starEach [e1, e2] en = (false, eval e1 en) :: starEach [e2] en) (he2 : starEach [e2] en = (false, eval e2 en) :: starEach [] en) (hplain : ∀ pos, (backTo pos (starEach [e2] en)).any (·.1) = false)
    (hst : eval (.Call (.Name (Str.ofString "_law_at") o) [e1, e2] [] p) en = (do callWith p (← eval (.Name (Str.ofString "_law_at") o) en) [] (backTo p (starEach [e1, e2] en)) (backToKw p (keywordEach [] en)))) :
    Ev C en l base (.Call (.Name (Str.ofString "_law_at") o) [e1, e2] [] p) (Gr base fun tl r => PtIn (tl ++ base) (1 + ps.length * (termB m k + 1)) r (lawAt ps t)) :=
  ev_callVE (fn_law_at W).2 hf h1 h2 (fun y n ⟨tl, e, ab, hy⟩ => by
    subst e
    refine (law_at_con W _ _ _ _ _ _ _ (hp.mono fun p hp => mem_app hp) hy hl1 hl4 hm1 hb).mono ?_
    rintro r n ⟨tl2, rfl, ab2, hr⟩
    exact ⟨tl2 ++ tl, (List.append_assoc _ _ _).symm, ab.app ab2, by show PtIn ((tl2 ++ tl) ++ base) _ _ _; rw [List.append_assoc]; exact hr⟩) hroom he1 he2 hplain hst
/-- (0, 1), (1, 1) -/
theorem ev_kq {e1 e2 : PySem.Expr} {k : Nat} {p : Pos} {q : Rat} {m : Nat} (h1 : EvI C en l news e1 q.num) (h2 : EvI C en l news e2 (q.den : Int)) (hs : Sm m q) (s1 : starEach [e1, e2] en = (false, eval e1 en) :: starEach [e2] en) (s2 : starEach [e2] en = (false, eval e2 en) :: starEach [] en) : Ev C en l news (.Tuple [e1, e2] k p) (Gr news fun tl v => FrIn tl v m q) :=
  (ev_pr h1 h2 hs.1 hs.2 (den_pos q) s1 s2).mono fun r n' ⟨tl, e, ab, h⟩ => ⟨tl, e, ab, h.fr rfl rfl⟩
end
/-- what a curve's split owes -/
structure SplitOk (ps : List Pt) (t s : Rat) : Prop where
  a1 : hd2 (splitL t ps) = hd2 ps
  a2 : la2 (splitR t ps) = la2 ps
  a3 : la2 (splitL t ps) = hd2 (splitR t ps)
  a4 : hd2 (splitR t ps) = lawAt ps t
  a5 : lawAt (splitL t ps) s = lawAt ps (betweenR 0 t s)
  a6 : lawAt (splitR t ps) s = lawAt ps (betweenR t 1 s)

end Mine

end
section
set_option linter.unusedVariables false
open PySem PySem.W PyProof.Rows PySem.Calls
set_option Elab.async false
set_option maxRecDepth 100000
set_option maxHeartbeats 1000000
namespace Mine
theorem lim4 {L x : Nat} (hL : L ≤ 4) (hx : x ≤ 10000000) : 1 + L * (x + 1) + x ≤ 67108864 := by
  have : L * (x + 1) ≤ 4 * (x + 1) := Nat.mul_le_mul_right _ hL
  omega
theorem splitL_ne {t : Rat} {ps : List Pt} (h1 : 1 ≤ ps.length) : splitL t ps ≠ [] := fun e => by
  have := splitL_len (t := t) h1
  rw [e] at this
  simp at this
  omega
theorem splitR_len {t : Rat} {ps : List Pt} (h1 : 1 ≤ ps.length) : (splitR t ps).length = ps.length := by
  unfold splitR
  rw [List.length_map, List.length_reverse, rowsL_len h1]
theorem splitR_ne {t : Rat} {ps : List Pt} (h1 : 1 ≤ ps.length) : splitR t ps ≠ [] := fun e => by
  have := splitR_len (t := t) h1
  rw [e] at this
  simp at this
  omega
theorem ne_nil_of {ps : List Pt} (h1 : 1 ≤ ps.length) : ps ≠ [] := fun e => by
  rw [e] at h1
  exact absurd h1 (by decide)
section
variable {W : Wx} {room : Nat} {sc : Scope} {cl : List (Str × Addr)} {C : Cx W room sc cl} {en : Env} {l : Bnd} {news : Led}
/-- _law_between(made, u, share), _law_between(t, made, share), _law_between(t, u, share) with two made -/
theorem ev_bet {e1 e2 e3 : PySem.Expr} {o p : Pos} {t u s : Rat} (hroom : 122 ≤ room) (hf : EvV C en l news (.Name (Str.ofString "_law_between") o) (.ref 223)) (h : Evs C en l news [e1, e2, e3] (GrL news fun tl vs => Som3 fun v1 v2 v3 => Amd4 (vs = [v1, v2, v3]) (FrIn (tl ++ news) v1 5 t) (FrIn (tl ++ news) v2 5 u) (FrIn (tl ++ news) v3 5 s)))
    (he : starEach [e1, e2, e3] en = (false, eval e1 en) :: starEach [e2, e3] en) (hplain : ∀ pos, (backTo pos (starEach [e2, e3] en)).any (·.1) = false)
    (hst : eval (.Call (.Name (Str.ofString "_law_between") o) [e1, e2, e3] [] p) en = (do callWith p (← eval (.Name (Str.ofString "_law_between") o) en) [] (backTo p (starEach [e1, e2, e3] en)) (backToKw p (keywordEach [] en)))) :
    Ev C en l news (.Call (.Name (Str.ofString "_law_between") o) [e1, e2, e3] [] p) (Gr news fun tl r => FrIn (tl ++ news) r (betB 5) (betweenR t u s)) :=
  ev_call hf (fn_law_between W).2 h (fun vs n ⟨tl, e, ab, v1, v2, v3, e2, f1, f2, f3⟩ => by
    subst e; subst e2
    refine (between_con W _ _ _ _ _ _ _ 5 f1 f2 f3 (by decide)).mono ?_
    rintro r n ⟨tl2, rfl, ab2, hr⟩
    exact ⟨tl2 ++ tl, (List.append_assoc _ _ _).symm, ab.app ab2, hr.mono fun p hp => mem_l (mem_l hp)⟩) hroom he hplain hst
end
theorem split_right_con (W : Wx) (news) (vc vt vs : Value) (ps : List Pt) (t s : Rat) (hc : CvIn news 4 vc ps) (ht : FrIn news vt 5 t) (hs : FrIn news vs 5 s) (h1 : 1 ≤ ps.length) (h4 : ps.length ≤ 4) (hok : SplitOk ps t s) :
    Con W.w W.mean W.mg W.mb 125 235 news [vc, vt, vs] (fun r n => r = .bool true) := by
  have hne := ne_nil_of h1
  have hneL := splitL_ne (t := t) h1
  have hneR := splitR_ne (t := t) h1
  have hlL : 1 ≤ (splitL t ps).length := by rw [splitL_len h1]; exact h1
  have hlL4 : (splitL t ps).length ≤ 4 := by rw [splitL_len h1]; exact h4
  have hlR : 1 ≤ (splitR t ps).length := by rw [splitR_len h1]; exact h1
  have hlR4 : (splitR t ps).length ≤ 4 := by rw [splitR_len h1]; exact h4
  refine' con_of [(Str.ofString "curve", vc), (Str.ofString "t", vt), (Str.ofString "share", vs)] (l := [(Str.ofString "share", vs), (Str.ofString "t", vt), (Str.ofString "curve", vc)]) ?ho ?hcd ?hbind ?hloc ?h1 ?h2 ?h3 ?h4 rfl ?_
  case ho => k_is
  case hcd => k_is
  case hbind => exact rfl
  case hloc => exact rfl
  case h1 => exact rfl
  case h2 => exact rfl
  case h3 => exact rfl
  case h4 => decide
  intro C
  refine ex_set2 (P := Gr news (CvPair news (bnd 5 3 4) (splitL t ps) (splitR t ps))) ?e1 ?e2 ?e3 ?e4 ?e5 ?k
  case e2 => exact rfl
  case e3 => exact rfl
  case e4 => exact rfl
  case e5 => exact rfl
  case e1 => exact ev_callVV (fn_split W).2 (ev_fn (fn_split W).1 rfl rfl) (ev_local rfl rfl rfl) (ev_local rfl rfl rfl) (split_con W _ _ _ _ _ _ _ hc ht h1 h4 (by decide)) (by decide)
  case k =>
    rintro v n ⟨tl, rfl, ab, D, v1, v2, c, rfl, hD, c1, c2⟩
    refine ⟨D, c, v1, v2, rfl, mem_l hD, ?_⟩
    have hc' : CvIn (tl ++ news) 4 vc ps := hc.mono fun p hp => mem_app hp
    have ht' : FrIn (tl ++ news) vt 5 t := ht.mono fun p hp => mem_app hp
    have hs' : FrIn (tl ++ news) vs 5 s := hs.mono fun p hp => mem_app hp
    refine ex_ifF (P := fun n => ∃ tl2, n = tl2 ++ (tl ++ news)) ?t1 ?r1
    case t1 =>
      refine tst_or (tst_ptV (by decide) (ev_hd (ev_local rfl rfl rfl) c1 hneL) (ev_hd (ev_local rfl rfl rfl) hc' hne) hok.a1 rfl) ?_ (fun n h => nomatch h.1)
      rintro n ⟨_, rfl⟩
      refine tst_or (tst_ptV (by decide) (ev_la (ev_local rfl rfl rfl) c2 hneR) (ev_la (ev_local rfl rfl rfl) hc' hne) hok.a2 rfl) ?_ (fun n h => nomatch h.1)
      rintro n ⟨_, rfl⟩
      refine tst_or (tst_ptV (by decide) (ev_la (ev_local rfl rfl rfl) c1 hneL) (ev_hd (ev_local rfl rfl rfl) c2 hneR) hok.a3 rfl) ?_ (fun n h => nomatch h.1)
      rintro n ⟨_, rfl⟩
      refine tst_or (Px := fun c n => c = false ∧ ∃ tl2, n = tl2 ++ (tl ++ news)) (tst_pt (by decide) (ev_hd (ev_local rfl rfl rfl) c2 hneR) ?_ rfl rfl) ?_ (fun n h => nomatch h.1)
      · rintro v n ⟨rfl, hv⟩
        refine (ev_lawAt (by decide) (ev_fn (fn_law_at W).1 rfl rfl) (ev_local rfl rfl rfl) (ev_local rfl rfl rfl) hc' ht' h1 h4 (by decide) (lim4 h4 (by decide)) rfl rfl (fun _ => rfl) rfl).mono ?_
        rintro w n ⟨tl2, rfl, ab2, hw⟩
        exact ⟨⟨_, _, _, hv.mono fun p hp => mem_app hp, hok.a4 ▸ hw⟩, tl2, rfl⟩
      · rintro n ⟨_, h⟩
        exact tst_or0 ⟨rfl, h⟩
    case r1 =>
      rintro n ⟨tl2, rfl⟩
      refine Ex.sub (news' := tl ++ news) ?_ (fun p hp => mem_app hp)
      refine ex_ifF (P := fun n => ∃ tl2, n = tl2 ++ (tl ++ news)) ?t2 ?r2
      case t2 =>
        refine tst_pt (Pa := Gr (tl ++ news) fun tl2 r => PtIn (tl2 ++ (tl ++ news)) (1 + (splitL t ps).length * (termB (bnd 5 3 4) 5 + 1)) r (lawAt (splitL t ps) s)) (by decide) (ev_lawAt (by decide) (ev_fn (fn_law_at W).1 rfl rfl) (ev_local rfl rfl rfl) (ev_local rfl rfl rfl) c1 hs' hlL hlL4 (by decide) (lim4 hlL4 (by decide)) rfl rfl (fun _ => rfl) rfl) ?_ rfl rfl
        rintro v n ⟨tl2, rfl, ab2, hv⟩
        refine (ev_lawAtE (k := betB 5) (t := betweenR 0 t s) (by decide) (ev_fn (fn_law_at W).1 rfl rfl) (ev_local rfl rfl rfl) ?_ (hc'.mono fun p hp => mem_app hp) h1 h4 (by decide) (lim4 h4 (by decide)) rfl rfl (fun _ => rfl) rfl).mono ?_
        · refine ev_bet (by decide) (ev_fn (fn_law_between W).1 rfl rfl) (evsg_cons (ev_kq (q := 0) (m := 5) evI_const evI_const ⟨by decide, by decide⟩ rfl rfl) ?_ rfl) rfl (fun _ => rfl) rfl
          intro tl3 w ab3 hw
          refine (evsV_cons (ev_local rfl rfl rfl) (evsV_cons (ev_local rfl rfl rfl) evsV_nil)).mono ?_
          rintro us n ⟨rfl, rfl⟩
          exact ⟨[], rfl, Abv.nil, w, vt, vs, rfl, hw.mono fun p hp => mem_l hp, ht'.mono fun p hp => mem_app (mem_app hp), hs'.mono fun p hp => mem_app (mem_app hp)⟩
        · rintro w n ⟨tl3, rfl, ab3, hw⟩
          exact ⟨⟨_, _, _, hv.mono fun p hp => mem_app hp, hok.a5 ▸ hw⟩, tl3 ++ tl2, (List.append_assoc _ _ _).symm⟩
      case r2 =>
        rintro n ⟨tl2, rfl⟩
        refine Ex.sub (news' := tl ++ news) ?_ (fun p hp => mem_app hp)
        refine ex_ret ((ev_pt (P := fun _ => True) (Pa := Gr (tl ++ news) fun tl2 r => PtIn (tl2 ++ (tl ++ news)) (1 + (splitR t ps).length * (termB (bnd 5 3 4) 5 + 1)) r (lawAt (splitR t ps) s)) (by decide) (ev_lawAt (by decide) (ev_fn (fn_law_at W).1 rfl rfl) (ev_local rfl rfl rfl) (ev_local rfl rfl rfl) c2 hs' hlR hlR4 (by decide) (lim4 hlR4 (by decide)) rfl rfl (fun _ => rfl) rfl) ?_ rfl rfl).mono fun r n h => h.1)
        rintro v n ⟨tl2, rfl, ab2, hv⟩
        refine (ev_lawAtE (k := betB 5) (t := betweenR t 1 s) (by decide) (ev_fn (fn_law_at W).1 rfl rfl) (ev_local rfl rfl rfl) ?_ (hc'.mono fun p hp => mem_app hp) h1 h4 (by decide) (lim4 h4 (by decide)) rfl rfl (fun _ => rfl) rfl).mono ?_
        · refine ev_bet (by decide) (ev_fn (fn_law_between W).1 rfl rfl) (evs_cons (ev_local rfl rfl rfl) ?_) rfl (fun _ => rfl) rfl
          rintro v0 n ⟨rfl, rfl⟩
          refine (evsg_cons (P := fun tl3 us => ∃ w, us = [w, vs] ∧ FrIn tl3 w 5 1) (ev_kq (q := 1) (m := 5) evI_const evI_const ⟨by decide, by decide⟩ rfl rfl) ?_ rfl).mono ?_
          · intro tl3 w ab3 hw
            refine (evsV_cons (ev_local rfl rfl rfl) evsV_nil).mono ?_
            rintro us n ⟨rfl, rfl⟩
            exact ⟨[], rfl, Abv.nil, w, rfl, hw.mono fun p hp => hp⟩
          · rintro us n ⟨tl3, rfl, ab3, w, rfl, hw⟩
            exact ⟨tl3, rfl, ab3, v0, w, vs, rfl, ht'.mono fun p hp => mem_app (mem_app hp), hw.mono fun p hp => mem_l hp, hs'.mono fun p hp => mem_app (mem_app hp)⟩
        · rintro w n ⟨tl3, rfl, ab3, hw⟩
          exact ⟨⟨_, _, _, hv.mono fun p hp => mem_app hp, hok.a6 ▸ hw⟩, True.intro⟩

end Mine

end
section
set_option linter.unusedVariables false
open PySem PySem.W PyProof.Rows PySem.Calls
set_option Elab.async false
set_option maxRecDepth 100000
set_option maxHeartbeats 1000000
namespace Mine
section
variable {W : Wx} {room : Nat} {sc : Scope} {cl : List (Str × Addr)} {C : Cx W room sc cl} {l : Bnd} {news : Led}
/-- p, q of a zip, both cells -/
theorem trn_zipC {n : Led} {x y : Str} {p1 p2 p3 : Pos} {k0 : Nat} {f : Tok → Value} {v2 : Value} {cx cy : Addr} {ox oy : Obj} {wx wy : Option Value} {keep : Led} {body : List Stmt} {R : Value → Led → Prop} {N : Bnd → Led → Prop} (hx : (envX C.cn sc C.L C.fa C.ccd cl).kindOf x = some .cell) (hy : (envX C.cn sc C.L C.fa C.ccd cl).kindOf y = some .cell) (hcx : cl.lookup x = some cx) (hcy : cl.lookup y = some cy) (hne : cy ≠ cx)
    (hmx : (cx, ox) ∈ n) (hdx : ox.data = .cell wx) (hmy : (cy, oy) ∈ n) (hdy : oy.data = .cell wy) (hk : ∀ p ∈ keep, p ∈ n) (hkx : ∀ p ∈ keep, p.1 ≠ cx) (hky : ∀ p ∈ keep, p.1 ≠ cy)
    (h : ∀ t ox' oy', ox'.data = .cell (some (f t)) → oy'.data = .cell (some v2) → Ex C C.env l ((cx, ox') :: (cy, oy') :: keep) body R N) : Trn C l n (.Tuple [.Name x p1, .Name y p2] k0 p3) (.pair f v2) body R N :=
  fun u E Q s pe hu F Nw r k => by
    obtain ⟨T, t, e, ht⟩ := hu
    subst e
    refine unpackN_ F Nw ht rfl rfl rfl fun h' F' N' => ?_
    refine assignInOrder_cons (PyProof.Rows.assign_Name ?_)
    refine cell_op ((cy, oy) :: keep) F' N' hcx hmx hdx ?_ ?_ ?_ C.hk hx
    · intro p hp
      rcases List.mem_cons.mp hp with rfl | hp
      · exact hmy
      · exact hk p hp
    · exact List.forall_mem_cons.mpr ⟨hne, hkx⟩
    · intro h2 ox' F2 N2 d2
      refine assignInOrder_cons (PyProof.Rows.assign_Name ?_)
      refine cell_op ((cx, ox') :: keep) F2 N2 hcy (.tail _ (.head _)) hdy ?_ ?_ ?_ C.hk hy
      · intro p hp
        rcases List.mem_cons.mp hp with rfl | hp
        · exact .head _
        · exact .tail _ (.tail _ hp)
      · exact List.forall_mem_cons.mpr ⟨hne.symm, hky⟩
      · intro h3 oy' F3 N3 d3
        refine assignInOrder_nil (h t ox' oy' d2 d3 E Q _ pe F3 (cb_drop N3 fun p hp => ?_) r k)
        rcases List.mem_cons.mp hp with rfl | hp
        · exact .tail _ (.head _)
        · rcases List.mem_cons.mp hp with rfl | hp
          · exact .head _
          · exact .tail _ (.tail _ hp)
theorem ex_set2C {x y : Str} {e : PySem.Expr} {p1 p2 p3 p4 : Pos} {k0 : Nat} {ss : List Stmt} {P : Value → Led → Prop} {R : Value → Led → Prop} {N : Bnd → Led → Prop} {cx : Addr} (he : Ev C C.env l news e P) (hx : (envX C.cn sc C.L C.fa C.ccd cl).kindOf x = some .cell) (hy : (envX C.cn sc C.L C.fa C.ccd cl).kindOf y = some .local) (hcx : cl.lookup x = some cx)
    (hs1 : swapsWithSole [.Tuple [.Name x p1, .Name y p2] k0 p3] e p4.line C.env = pure false) (hs2 : swappedStores [.Tuple [.Name x p1, .Name y p2] k0 p3] e C.env = pure none)
    (k : ∀ v n, P v n → Som7 fun r c v1 v2 ox wx keep => Amd7 (v = .ref r) ((r, tupO #[v1, v2] c) ∈ n) ((cx, (ox : Obj)) ∈ n) (ox.data = .cell wx) ((∀ p ∈ keep, p ∈ n)) ((∀ p ∈ keep, p.1 ≠ cx)) (∀ ox', ox'.data = .cell (some v1) → Ex C C.env ((y, v2) :: l) ((cx, ox') :: keep) ss R N)) : Ex C C.env l news (.Assign [.Tuple [.Name x p1, .Name y p2] k0 p3] e p4 :: ss) R N :=
  fun E Q s pe F Nw r kn => wpAny_execs_cons (Assign_Tuple (he E _ s F Nw fun v n h' tk F' N' p => by
    obtain ⟨rr, c, v1, v2, ox, wx, keep, e1, hm, hmx, hdx, hk, hkx, kk⟩ := k v n p
    subst e1
    refine unpackN_ F' N' (items := #[v1, v2]) ⟨_, (N' _ hm).1, rfl, c, rfl⟩ rfl rfl rfl fun h2 F2 N2 => ?_
    refine assignInOrder_cons (PyProof.Rows.assign_Name (cell_op keep F2 N2 hcx hmx hdx hk hkx (fun h3 ox' F3 N3 d3 => ?_) C.hk hx))
    refine assignInOrder_cons (PyProof.Rows.assign_Name (st_op F3 N3 hy fun h4 F4 N4 => ?_))
    exact assignInOrder_nil (kk ox' d3 E Q _ pe F4 N4 r kn)) hs1 hs2)
end

end Mine

end
section
set_option linter.unusedVariables false
open PySem PySem.W PyProof.Rows PySem.Calls
set_option Elab.async false
set_option maxRecDepth 100000
set_option maxHeartbeats 1000000
namespace Mine
noncomputable def rateL (d : Int) (p q : Pt) (k : Nat) : List (Int × Int) := [(d * (ax k q).num, ((ax k q).den : Int)), (-d * (ax k p).num, ((ax k p).den : Int))]
noncomputable def rateR (d : Int) (p q : Pt) (k : Nat) : Rat := Rat.divInt (sumQ (rateL d p q k)).1 (sumQ (rateL d p q k)).2
noncomputable def rateP (ps : List Pt) : List Pt := (List.range (ps.length - 1)).map fun i => (rateR ((ps.length : Int) - 1) (ps.getD i Z2) (ps.getD (i + 1) Z2) 0, rateR ((ps.length : Int) - 1) (ps.getD i Z2) (ps.getD (i + 1) Z2) 1)
noncomputable def rateB (m : Nat) : Nat := 1 + 2 * (m + 2 + 1)
/-- what holds ahead of each turn of _law_rate's loop -/
def RateJ (L' R : Addr) (od : Obj) (news : Led) (ps : List Pt) (m : Nat) (ext : Led) (i : Nat) (n : Led) : Prop :=
  Som7 fun ys c tl op oq wp wq => Amd6 ((∀ p ∈ (R, listOf (ys : List Value).toArray c) :: (L' + 1 + 1, (op : Obj)) :: (L' + 1 + 1 + 1, (oq : Obj)) :: (tl ++ (ext ++ ((L' + 1, od) :: news))), p ∈ n)) (op.data = .cell wp) (oq.data = .cell wq) ((∀ p ∈ tl ++ ext, R < p.1)) (All2 (PtIn (tl ++ (ext ++ ((L' + 1, od) :: news))) (rateB m)) ys ((rateP ps).take i)) (ys.length = i)
theorem rate_con (W : Wx) (news) (vc vt : Value) (ps : List Pt) (t : Rat) (m k : Nat) (hp : CvIn news m vc ps) (ht : FrIn news vt k t) (h2 : 2 ≤ ps.length) (h4 : ps.length ≤ 4) (hm1 : 1 ≤ m) (hb0 : rateB m + (m + 2) ≤ 67108864) (hb : 1 + (ps.length - 1) * (termB (rateB m) k + 1) + termB (rateB m) k ≤ 67108864) :
    Con W.w W.mean W.mg W.mb 123 228 news [vc, vt] (Gr news fun tl r => PtIn (tl ++ news) (1 + (ps.length - 1) * (termB (rateB m) k + 1)) r (lawAt (rateP ps) t)) := by
  obtain ⟨rc, vs, cc, rfl, hm, hl, ha⟩ := hp.at
  refine' con_ofC [(Str.ofString "curve", .ref rc), (Str.ofString "t", vt)] (l := [(Str.ofString "t", vt), (Str.ofString "curve", .ref rc)]) ?ho ?hcd ?hbind ?hkind ?hnd ?hloc ?h1 ?h2 ?h3 rfl ?_
  case ho => k_is
  case hcd => k_is
  case hbind => exact rfl
  case hkind => exact rfl
  case hnd => decide +kernel
  case hloc =>
    intro x hx
    simp only [List.mem_cons, List.not_mem_nil, or_false] at hx
    first
      | (rcases hx with rfl | rfl <;> rfl)
      | (subst hx; rfl)
  case h1 => exact rfl
  case h2 => exact rfl
  case h3 => exact rfl
  intro L' C cells Y l1
  obtain ⟨o1, o2, o3, rfl, d1, d2, d3⟩ := CellsAre.three Y
  have hvl : vs.length ≤ 16384 := by rw [hl]; exact Nat.le_trans h4 (by decide)
  obtain ⟨d, hd⟩ : ∃ d, ps.length = d + 1 := Nat.exists_eq_succ_of_ne_zero (Nat.ne_of_gt (Nat.lt_of_lt_of_le (by decide : 0 < 2) h2))
  have hdi : ((ps.length : Int) - 1) = (d : Int) := by rw [hd]; exact Int.add_sub_cancel (d : Int) 1
  have hnL : ∀ p ∈ news, p.1 ≠ L' + 1 ∧ p.1 ≠ L' + 1 + 1 ∧ p.1 ≠ L' + 1 + 1 + 1 := fun p hp => by
    have := l1 p hp
    exact ⟨Nat.ne_of_lt (Nat.lt_succ_of_lt this), Nat.ne_of_lt (Nat.lt_succ_of_lt (Nat.lt_succ_of_lt this)), Nat.ne_of_lt (Nat.lt_succ_of_lt (Nat.lt_succ_of_lt (Nat.lt_succ_of_lt this)))⟩
  have n12 : (L' + 1 : Nat) ≠ L' + 1 + 1 := Nat.ne_of_lt (Nat.lt_succ_self _)
  have n13 : (L' + 1 : Nat) ≠ L' + 1 + 1 + 1 := Nat.ne_of_lt (Nat.lt_succ_of_lt (Nat.lt_succ_self _))
  have n23 : (L' + 1 + 1 : Nat) ≠ L' + 1 + 1 + 1 := Nat.ne_of_lt (Nat.lt_succ_self _)
  dsimp only [List.cons_append, List.nil_append]
  refine ex_set2C (cx := L' + 1) (P := fun v n => Som3 fun D u R => Amd3 (v = .ref D) (n = (D, tupO #[.int (d : Int) u, .ref R] 0) :: (R, listOf ([] : List Value).toArray 0) :: (L' + 1 + 1 + 1, o1) :: (L' + 1 + 1, o2) :: (L' + 1, o3) :: news) (AllLt R ((L' + 1 + 1 + 1, o1) :: (L' + 1 + 1, o2) :: (L' + 1, o3) :: news))) ?e1 ?e2 ?e3 ?e4 ?e5 ?e6 ?k
  case e2 => exact rfl
  case e3 => exact rfl
  case e4 => exact rfl
  case e5 => exact rfl
  case e6 => exact rfl
  case e1 =>
    refine ev_tuple (P := fun us n => Som2 fun u R => Amd3 (us = [.int (d : Int) u, .ref R]) (n = (R, listOf ([] : List Value).toArray 0) :: (L' + 1 + 1 + 1, o1) :: (L' + 1 + 1, o2) :: (L' + 1, o3) :: news) (AllLt R ((L' + 1 + 1 + 1, o1) :: (L' + 1 + 1, o2) :: (L' + 1, o3) :: news))) (evs_cons (evI_sub (ev_lenV (ev_ty (bi_len W)) (ev_local rfl rfl rfl) (seqT (.tail _ (.tail _ (.tail _ hm)))) hl (hl ▸ hvl)) evI_const) ?_) ?_
    · rintro v n ⟨⟨u, rfl⟩, rfl⟩
      refine evs_cons (ev_list (P := fun us n' => us = [] ∧ n' = (L' + 1 + 1 + 1, o1) :: (L' + 1 + 1, o2) :: (L' + 1, o3) :: news) (post := fun v n' => ∃ R, Amd3 (v = .ref R) (n' = (R, listOf ([] : List Value).toArray 0) :: (L' + 1 + 1 + 1, o1) :: (L' + 1 + 1, o2) :: (L' + 1, o3) :: news) (AllLt R ((L' + 1 + 1 + 1, o1) :: (L' + 1 + 1, o2) :: (L' + 1, o3) :: news))) evs_nil ?_) ?_
      · rintro us n' D ⟨rfl, rfl⟩ hD
        exact ⟨by simp, D, rfl, rfl, hD⟩
      · rintro v n' ⟨R, rfl, rfl, hR⟩
        refine evs_nil.mono ?_
        rintro us n' ⟨rfl, rfl⟩
        exact ⟨u, R, by rw [hdi], rfl, hR⟩
    · rintro us n D ⟨u, R, rfl, rfl, hR⟩ hD
      exact ⟨by simp, D, u, R, rfl, rfl, hR⟩
  case k =>
    rintro v n ⟨D, u, R, rfl, rfl, hR⟩
    refine ⟨D, 0, .int (d : Int) u, .ref R, o3, none, (R, listOf ([] : List Value).toArray 0) :: (L' + 1 + 1 + 1, o1) :: (L' + 1 + 1, o2) :: news, rfl, .head _, .tail _ (.tail _ (.tail _ (.tail _ (.head _)))), d3, ?kk1, ?kk2, ?kk3⟩
    case kk1 =>
      intro p hp
      rcases List.mem_cons.mp hp with rfl | hp
      · exact .tail _ (.head _)
      rcases List.mem_cons.mp hp with rfl | hp
      · exact .tail _ (.tail _ (.head _))
      rcases List.mem_cons.mp hp with rfl | hp
      · exact .tail _ (.tail _ (.tail _ (.head _)))
      · exact .tail _ (.tail _ (.tail _ (.tail _ (.tail _ hp))))
    case kk2 => exact List.forall_mem_cons.mpr ⟨Nat.ne_of_gt (ktn_ltOf hR (L' + 1, o3) (.tail _ (.tail _ (.head _)))), List.forall_mem_cons.mpr ⟨n13.symm, List.forall_mem_cons.mpr ⟨n12.symm, fun p hp => (hnL p hp).1⟩⟩⟩
    case kk3 =>
      intro od hod
      have hRL : L' + 1 + 1 + 1 < R := ktn_ltOf hR (L' + 1 + 1 + 1, o1) (.head _)
      have hRn : ∀ p ∈ (L' + 1, od) :: news, p.1 < R := List.forall_mem_cons.mpr ⟨ktn_ltOf hR (L' + 1, o3) (.tail _ (.tail _ (.head _))), fun p hp => ktn_ltOf hR p (.tail _ (.tail _ (.tail _ hp)))⟩
      refine ex_for (zipItems vs (vs.drop 1)) ((L' + 1, od) :: news) (fun ext i l' n => Abv ((L' + 1, od) :: (R, listOf ([] : List Value).toArray 0) :: (L' + 1 + 1 + 1, o1) :: (L' + 1 + 1, o2) :: news) ext ∧ (look l' (Str.ofString "curve") = some (.ref rc) ∧ look l' (Str.ofString "t") = some vt ∧ look l' (Str.ofString "ahead") = some (.ref R)) ∧ RateJ L' R od news ps m ext i n) ?hI ?h0 ?hK ?turn ?fin
      case hI =>
        refine itr_zip (r1 := rc) (vs := vs) (ws := vs.drop 1) (c1 := cc) (ev_ty (bi_zip W)) (ev_local rfl rfl rfl) (.tail _ (.tail _ (.tail _ (.tail _ hm)))) (.tail _ hm) ?_ ?_ rfl rfl (fun _ => rfl) rfl
        · exact List.forall_mem_cons.mpr ⟨.head _, fun p hp => .tail _ (.tail _ (.tail _ (.tail _ hp)))⟩
        · exact ev_from1 (c := cc) (ev_local rfl rfl rfl) evI_const (.tail _ (.tail _ (.tail _ (.tail _ hm)))) hvl (hl ▸ Nat.le_of_succ_le h2) (fun r i => by with_unfolding_all rfl) (fun _ _ => rfl)
      case h0 =>
        intro ext hab
        refine ⟨hab, ⟨rfl, rfl, rfl⟩, [], 0, [], o2, o1, none, none, fun p hp => ?_, d2, d1, fun p hp => hab p hp (R, listOf ([] : List Value).toArray 0) (.tail _ (.head _)), True.intro, rfl⟩
        rcases List.mem_cons.mp hp with rfl | hp
        · exact mem_app (.tail _ (.head _))
        rcases List.mem_cons.mp hp with rfl | hp
        · exact mem_app (.tail _ (.tail _ (.tail _ (.head _))))
        rcases List.mem_cons.mp hp with rfl | hp
        · exact mem_app (.tail _ (.tail _ (.head _)))
        rcases List.mem_append.mp (show p ∈ ext ++ ((L' + 1, od) :: news) from hp) with hp | hp
        · exact mem_l hp
        rcases List.mem_cons.mp hp with rfl | hp
        · exact mem_app (.head _)
        · exact mem_app (.tail _ (.tail _ (.tail _ (.tail _ hp))))
      case hK =>
        rintro ext i l' n ⟨_, _, ys, c, tl, op, oq, wp, wq, hs, _⟩ p hp
        exact hs p (.tail _ (.tail _ (.tail _ (mem_app hp))))
      case turn =>
        rintro ext i a l' n its hi ⟨hab, ⟨k1, k2, k3⟩, ys, c, tl, op, oq, wp, wq, hs, dp, dq, hgt, hall, hlen⟩ hap
        obtain ⟨x, y, hx, hy, rfl⟩ := zip_get hi
        rw [List.getElem?_drop, Nat.add_comm] at hy
        obtain ⟨p0, hp0, lx, vx1, vx2, cx, rfl, hmx, fx1, fx2⟩ := ha.get i x hx
        obtain ⟨p1, hp1, ly, vy1, vy2, cy, rfl, hmy, fy1, fy2⟩ := ha.get (i + 1) y hy
        have hi2 : i < ps.length - 1 := by
          exact Nat.lt_sub_of_add_lt (List.getElem?_eq_some_iff.mp hp1).1
        have hgt2 : ∀ p ∈ tl ++ (ext ++ ((L' + 1, od) :: news)), p.1 ≠ R ∧ p.1 ≠ L' + 1 + 1 ∧ p.1 ≠ L' + 1 + 1 + 1 := by
          intro p hp
          rw [← List.append_assoc] at hp
          rcases List.mem_append.mp hp with hp | hp
          · have h := hgt p hp
            exact ⟨Nat.ne_of_gt h, Nat.ne_of_gt (Nat.lt_trans (Nat.lt_trans (Nat.lt_succ_self _) hRL) h), Nat.ne_of_gt (Nat.lt_trans hRL h)⟩
          · refine ⟨Nat.ne_of_lt (hRn p hp), ?_⟩
            rcases List.mem_cons.mp hp with rfl | hp
            · exact ⟨n12, n13⟩
            · exact (hnL p hp).2
        refine trn_zipC (cx := L' + 1 + 1) (cy := L' + 1 + 1 + 1) (ox := op) (oy := oq) (wx := wp) (wy := wq) (keep := its ++ ((R, listOf ys.toArray c) :: (tl ++ (ext ++ ((L' + 1, od) :: news))))) rfl rfl rfl rfl n23.symm (mem_app (hs _ (.tail _ (.head _)))) dp (mem_app (hs _ (.tail _ (.tail _ (.head _))))) dq ?q1 ?q2 ?q3 ?q4
        case q1 =>
          intro p hp
          rcases List.mem_append.mp hp with hp | hp
          · exact mem_l hp
          rcases List.mem_cons.mp hp with rfl | hp
          · exact mem_app (hs _ (.head _))
          · exact mem_app (hs _ (.tail _ (.tail _ (.tail _ hp))))
        case q2 =>
          intro p hp
          rcases List.mem_append.mp hp with hp | hp
          · exact fun e => hap p hp _ (hs _ (.tail _ (.head _))) e.symm
          rcases List.mem_cons.mp hp with rfl | hp
          · exact Nat.ne_of_gt (Nat.lt_trans (Nat.lt_succ_self _) hRL)
          · exact (hgt2 p hp).2.1
        case q3 =>
          intro p hp
          rcases List.mem_append.mp hp with hp | hp
          · exact fun e => hap p hp _ (hs _ (.tail _ (.tail _ (.head _)))) e.symm
          rcases List.mem_cons.mp hp with rfl | hp
          · exact Nat.ne_of_gt hRL
          · exact (hgt2 p hp).2.2
        case q4 =>
          intro t0 op' oq' dp' dq'
          have hRM : (R, listOf ys.toArray c) ∈ (L' + 1 + 1, op') :: (L' + 1 + 1 + 1, oq') :: (its ++ ((R, listOf ys.toArray c) :: (tl ++ (ext ++ ((L' + 1, od) :: news))))) := .tail _ (.tail _ (mem_app (.head _)))
          refine ex_append (P := Gr ((L' + 1 + 1, op') :: (L' + 1 + 1 + 1, oq') :: (its ++ ((R, listOf ys.toArray c) :: (tl ++ (ext ++ ((L' + 1, od) :: news)))))) fun tl2 v => PtIn tl2 (rateB m) v (rateR (d : Int) p0 p1 0, rateR (d : Int) p0 p1 1)) (ev_local k3 rfl rfl) hRM ?ap1 ?ap2
          case ap1 =>
            generalize hM : (L' + 1 + 1, op') :: (L' + 1 + 1 + 1, oq') :: (its ++ ((R, listOf ys.toArray c) :: (tl ++ (ext ++ ((L' + 1, od) :: news))))) = M
            have mP : (L' + 1 + 1, op') ∈ M := hM ▸ .head _
            have mQ : (L' + 1 + 1 + 1, oq') ∈ M := hM ▸ .tail _ (.head _)
            have mD : (L' + 1, od) ∈ M := hM ▸ .tail _ (.tail _ (mem_app (.tail _ (mem_app (mem_app (.head _))))))
            have mN : ∀ p ∈ news, p ∈ M := fun p hp => hM ▸ .tail _ (.tail _ (mem_app (.tail _ (mem_app (mem_app (.tail _ hp))))))
            refine (ev_tcomp (P := fun zs nx => ∃ tl2, Amd3 (nx = tl2 ++ M) (Abv M tl2) (All2 (fun v q => FrIn tl2 v (rateB m) q) zs [rateR (d : Int) p0 p1 0, rateR (d : Int) p0 p1 1])) (ev_ty (bi_tuple W)) (ev_compR (n := 2) (clo := _) (P0 := fun n => n = M) (fun i zs nx => ∃ tl2, Amd3 (nx = tl2 ++ M) (Abv M tl2) (All2 (fun v q => FrIn tl2 v (rateB m) q) zs ([rateR (d : Int) p0 p1 0, rateR (d : Int) p0 p1 1].take i))) ?it (by decide) ?i0 ?tn ?fn rfl)).mono ?po
            case it => exact ev_range1 (ev_ty (bi_range W)) evI_const
            case i0 =>
              rintro n0 rfl
              exact ⟨[], rfl, Abv.nil, True.intro⟩
            case fn =>
              rintro D zs nx ⟨tl2, rfl, ab2, hz⟩ off
              exact ⟨D, zs, _, rfl, rfl, by rw [hz.len]; exact Nat.le_of_ble_eq_true rfl, tl2, rfl, ab2, hz⟩
            case po =>
              rintro v n ⟨D, zs, nx, rfl, rfl, hD, tl2, rfl, ab2, hz⟩
              obtain ⟨z0, z1, rfl, g0, g1⟩ := hz.two
              exact ⟨(D, tupO #[z0, z1] 0) :: tl2, rfl, Abv.cons hD ab2, D, z0, z1, 0, rfl, .head _, g0.mono fun p hp => .tail _ hp, g1.mono fun p hp => .tail _ hp⟩
            case tn =>
              rintro j tj zs nx I oI Cc oC D m₂ hj ⟨tl2, rfl, ab2, hz⟩ hC hv off
              obtain ⟨wx, hwx, fwx⟩ : ∃ w, At [vx1, vx2] (j : Int) w ∧ FrIn news w m (ax j p0) := by
                rcases j with _ | _ | j
                · exact ⟨vx1, At.of (by decide) rfl, fx1⟩
                · exact ⟨vx2, At.of (by decide) rfl, fx2⟩
                · omega
              obtain ⟨wy, hwy, fwy⟩ : ∃ w, At [vy1, vy2] (j : Int) w ∧ FrIn news w m (ax j p1) := by
                rcases j with _ | _ | j
                · exact ⟨vy1, At.of (by decide) rfl, fy1⟩
                · exact ⟨vy2, At.of (by decide) rfl, fy2⟩
                · omega
              have hget : [rateR (d : Int) p0 p1 0, rateR (d : Int) p0 p1 1][j]? = some (rateR (d : Int) p0 p1 j) := by
                rcases j with _ | _ | j
                · rfl
                · rfl
                · omega
              have hd2b : Builtin.Int.intBits (d : Int) ≤ 2 ∧ Builtin.Int.intBits (-(d : Int)) ≤ 2 := by
                rcases d with _ | _ | _ | _ | d
                · decide
                · decide
                · decide
                · decide
                · omega
              have b1 : Builtin.Int.intBits ((d : Int) * (ax j p1).num) ≤ m + 2 := Nat.le_trans (intBits_mul_le hd2b.1 fwy.sm.1) (Nat.le_of_eq (Nat.add_comm _ _))
              have b2 : Builtin.Int.intBits (-(d : Int) * (ax j p0).num) ≤ m + 2 := Nat.le_trans (intBits_mul_le hd2b.2 fwx.sm.1) (Nat.le_of_eq (Nat.add_comm _ _))
              have hm2 : m + 2 ≤ 67108864 := Nat.le_trans (Nat.le_add_left _ _) hb0
              generalize hB : (I, oI) :: (Cc, oC) :: (D, LCg.lst zs) :: (tl2 ++ M) = B
              have hMB : ∀ p ∈ M, p ∈ B := fun p hp => hB ▸ .tail _ (.tail _ (.tail _ (mem_app hp)))
              have mC : (Cc, oC) ∈ B := hB ▸ .tail _ (.head _)
              refine Ev.mono (P := Gr B fun tl3 v => FrIn tl3 v (rateB m) (rateR (d : Int) p0 p1 j)) ?ge ?gk
              case gk =>
                subst hB
                rintro v n ⟨tl3, rfl, ab3, hr⟩
                refine elt_gr off ab3 ⟨tl3 ++ tl2, (List.append_assoc _ _ _).symm, ab2.app (fun p hp q hq => ab3 p hp q (.tail _ (.tail _ (.tail _ hq)))), ?_⟩
                rw [List.take_add_one, hget]
                exact All2.app (as' := [v]) (bs' := [_]) ⟨hr.mono fun p hp => mem_l hp, True.intro⟩ (hz.mono fun _ _ h => h.mono fun p hp => mem_app hp)
              case ge =>
                refine ev_call (P := fun us n' => Som2 fun tl3 v => Amd4 (us = [v]) (n' = tl3 ++ B) (Abv B tl3) (LsIn (fun tl v b => PrIn tl (m + 2) v b) (rateL (d : Int) p0 p1 j) tl3 v)) (cost := 121) ?f1 (fn_law_sum W).2 ?f2 ?f3 (by decide) ?f4 ?f5 ?f6
                case f4 => exact rfl
                case f5 => exact fun _ => rfl
                case f6 => exact rfl
                case f1 => exact ev_fnC (fn_law_sum W).1
                case f3 =>
                  rintro us n ⟨tl3, v, rfl, rfl, ab3, L3, ws, c3, rfl, hm3, hall3⟩
                  refine (sum_con W _ L3 _ ws (rateL (d : Int) p0 p1 j) (m + 2) (mem_l hm3) (isL _ _) (hall3.mono fun _ _ h => h.mono fun p hp => mem_l hp) hb0).mono ?_
                  rintro r n' ⟨tl4, rfl, ab4, hr⟩
                  exact ⟨tl4 ++ tl3, (List.append_assoc _ _ _).symm, ab3.app ab4, hr.mono fun p hp => mem_l hp⟩
                case f2 =>
                  refine evs_cons (evg_list (bs := rateL (d : Int) p0 p1 j) (Rel := fun tl v b => PrIn tl (m + 2) v b) (fun n n' v b hs h => h.mono hs) (Nat.le_of_ble_eq_true rfl) ?g1) ?g2
                  case g2 =>
                    rintro v n ⟨tl3, rfl, ab3, h3⟩
                    refine evs_nil.mono ?_
                    rintro us n ⟨rfl, rfl⟩
                    exact ⟨tl3, v, rfl, rfl, ab3, h3⟩
                  case g1 =>
                    refine evsg_cons (ev_pr (x := (d : Int) * (ax j p1).num) (y := ((ax j p1).den : Int)) (m := m + 2) ?p1 ?p2 b1 (Nat.le_trans fwy.sm.2 (Nat.le_add_right _ _)) (den_pos _) rfl rfl) ?p3
                    case p1 => exact evI_mul (evI_of (ev_cellC rfl (hMB _ mD) hod)) (evI_num (ev_subV (ev_cellC rfl (hMB _ mQ) dq') (evI_of (ev_own mC hC hv)) (seqT (hMB _ (mN _ hmy))) hwy ix_lo (ix_hi hj (by decide))) (fwy.mono fun p hp => hMB p (mN p hp))) (IntMulOk.of_le hd2b.1 fwy.sm.1 (by omega))
                    case p2 => exact evI_den (ev_subV (ev_cellC rfl (hMB _ mQ) dq') (evI_of (ev_own mC hC hv)) (seqT (hMB _ (mN _ hmy))) hwy ix_lo (ix_hi hj (by decide))) (fwy.mono fun p hp => hMB p (mN p hp))
                    case p3 =>
                      intro tl4 v ab4 hv4
                      have hMB4 : ∀ p ∈ B, p ∈ tl4 ++ B := fun p hp => mem_app hp
                      refine evsg_cons (ev_pr (x := -(d : Int) * (ax j p0).num) (y := ((ax j p0).den : Int)) (m := m + 2) ?p1 ?p2 b2 (Nat.le_trans fwx.sm.2 (Nat.le_add_right _ _)) (den_pos _) rfl rfl) ?p3
                      case p1 => exact evI_mul (evI_neg (evI_of (ev_cellC rfl (hMB4 _ (hMB _ mD)) hod))) (evI_num (ev_subV (ev_cellC rfl (hMB4 _ (hMB _ mP)) dp') (evI_of (ev_own (hMB4 _ mC) hC hv)) (seqT (hMB4 _ (hMB _ (mN _ hmx)))) hwx ix_lo (ix_hi hj (by decide))) (fwx.mono fun p hp => hMB4 p (hMB p (mN p hp)))) (IntMulOk.of_le hd2b.2 fwx.sm.1 (by omega))
                      case p2 => exact evI_den (ev_subV (ev_cellC rfl (hMB4 _ (hMB _ mP)) dp') (evI_of (ev_own (hMB4 _ mC) hC hv)) (seqT (hMB4 _ (hMB _ (mN _ hmx)))) hwx ix_lo (ix_hi hj (by decide))) (fwx.mono fun p hp => hMB4 p (hMB p (mN p hp)))
                      case p3 =>
                        intro tl5 v2 ab5 hv5
                        exact evsg_nil ⟨hv4.mono fun p hp => mem_app hp, hv5.mono fun p hp => mem_l hp, True.intro⟩
          case ap2 =>
            rintro v m' ⟨tl2, rfl, ab2, hv⟩
            have hab2 : ∀ p ∈ tl2, ∀ q ∈ (L' + 1 + 1, op') :: (L' + 1 + 1 + 1, oq') :: (its ++ ((R, listOf ys.toArray c) :: (tl ++ (ext ++ ((L' + 1, od) :: news))))), q.1 < p.1 := ab2
            refine ⟨tl2 ++ ((L' + 1 + 1, op') :: (L' + 1 + 1 + 1, oq') :: (its ++ (tl ++ (ext ++ ((L' + 1, od) :: news))))), ys, c, mem_app hRM, ?_, ?_, hlen ▸ Nat.le_trans (Nat.le_of_lt hi2) (Nat.le_trans (Nat.sub_le _ _) (Nat.le_trans h4 (by decide))), ex_nil ?_⟩
            · intro p hp
              rcases List.mem_append.mp hp with hp | hp
              · exact mem_l hp
              rcases List.mem_cons.mp hp with rfl | hp
              · exact mem_app (.head _)
              rcases List.mem_cons.mp hp with rfl | hp
              · exact mem_app (.tail _ (.head _))
              rcases List.mem_append.mp hp with hp | hp
              · exact mem_app (.tail _ (.tail _ (mem_l hp)))
              · exact mem_app (.tail _ (.tail _ (mem_app (.tail _ hp))))
            · intro p hp
              rcases List.mem_append.mp hp with hp | hp
              · exact Nat.ne_of_gt (hab2 p hp _ hRM)
              rcases List.mem_cons.mp hp with rfl | hp
              · exact Nat.ne_of_lt (Nat.lt_trans (Nat.lt_succ_self _) hRL)
              rcases List.mem_cons.mp hp with rfl | hp
              · exact Nat.ne_of_lt hRL
              rcases List.mem_append.mp hp with hp | hp
              · exact fun e => hap p hp _ (hs _ (.head _)) e.symm
              · exact (hgt2 p hp).1
            · refine ⟨(R, listOf (ys ++ [v]).toArray (c + 1)) :: (L' + 1 + 1, op') :: (L' + 1 + 1 + 1, oq') :: ((tl2 ++ tl) ++ (ext ++ ((L' + 1, od) :: news))), ?_, ?_, ?_, hab, ⟨k1, k2, k3⟩, ys ++ [v], c + 1, tl2 ++ tl, op', oq', _, _, fun _ h => h, dp', dq', ?_, ?_, by rw [List.length_append, hlen]; rfl⟩
              · exact fun p hp => .tail _ (mem_app (.tail _ (.tail _ (mem_l hp))))
              · intro p hp
                rcases List.mem_cons.mp hp with rfl | hp
                · exact .head _
                rcases List.mem_cons.mp hp with rfl | hp
                · exact .tail _ (mem_app (.head _))
                rcases List.mem_cons.mp hp with rfl | hp
                · exact .tail _ (mem_app (.tail _ (.head _)))
                rw [List.append_assoc] at hp
                rcases List.mem_append.mp hp with hp | hp
                · exact .tail _ (mem_l hp)
                · exact .tail _ (mem_app (.tail _ (.tail _ (mem_app hp))))
              · intro p hp q hq
                rcases List.mem_cons.mp hq with rfl | hq
                · exact hap p hp (R, listOf ys.toArray c) (hs _ (.head _))
                rcases List.mem_cons.mp hq with rfl | hq
                · exact hap p hp (L' + 1 + 1, op) (hs _ (.tail _ (.head _)))
                rcases List.mem_cons.mp hq with rfl | hq
                · exact hap p hp (L' + 1 + 1 + 1, oq) (hs _ (.tail _ (.tail _ (.head _))))
                rw [List.append_assoc] at hq
                rcases List.mem_append.mp hq with hq | hq
                · exact Nat.ne_of_gt (hab2 q hq p (.tail _ (.tail _ (mem_l hp))))
                · exact hap p hp q (hs q (.tail _ (.tail _ (.tail _ hq))))
              · intro p hp
                rw [List.append_assoc] at hp
                rcases List.mem_append.mp hp with hp | hp
                · exact hab2 p hp _ hRM
                · exact hgt p hp
              · have hq : (rateP ps)[i]? = some (rateR (d : Int) p0 p1 0, rateR (d : Int) p0 p1 1) := by
                  have e0 : ps.getD i Z2 = p0 := by rw [List.getD_eq_getElem?_getD, hp0]; rfl
                  have e1 : ps.getD (i + 1) Z2 = p1 := by rw [List.getD_eq_getElem?_getD, hp1]; rfl
                  unfold rateP
                  rw [List.getElem?_map, List.getElem?_eq_getElem (by rw [List.length_range]; exact hi2), List.getElem_range, Option.map_some, e0, e1, hdi]
                rw [List.take_add_one, hq, List.append_assoc]
                exact All2.app (as' := [v]) (bs' := [_]) ⟨hv.mono fun p hp => mem_l hp, True.intro⟩ (hall.mono fun _ _ h => h.mono fun p hp => mem_app hp)
      case fin =>
        rintro ext l' n ⟨hab, ⟨k1, k2, k3⟩, ys, c, tl, op, oq, wp, wq, hs, _, _, hgt, hall, hlen⟩
        have hzl : (zipItems vs (vs.drop 1)).length = ps.length - 1 := by
          rw [zipItems_length, List.length_drop, hl, Nat.min_eq_right (Nat.sub_le _ _)]
        have hrl : (rateP ps).length = ps.length - 1 := by unfold rateP; rw [List.length_map, List.length_range]
        rw [hzl, List.take_of_length_le (by rw [hrl]; exact Nat.le_refl _)] at hall
        rw [hzl] at hlen
        refine Ex.sub (news' := (R, listOf ys.toArray c) :: (tl ++ (ext ++ ((L' + 1, od) :: news)))) ?_ ?sub
        case sub =>
          intro p hp
          rcases List.mem_cons.mp hp with rfl | hp
          · exact hs _ (.head _)
          · exact hs p (.tail _ (.tail _ (.tail _ hp)))
        refine ex_ret (ev_call (P := fun us n' => ∃ D, Amd3 (us = [.ref D, vt]) (n' = (D, tupO ys.toArray 0) :: (R, listOf ys.toArray c) :: (tl ++ (ext ++ ((L' + 1, od) :: news)))) (AllLt D ((R, listOf ys.toArray c) :: (tl ++ (ext ++ ((L' + 1, od) :: news)))))) (cost := 122) (ev_fn (fn_law_at W).1 rfl rfl) (fn_law_at W).2 (evs_cons (ev_tupL (post := fun v n' => ∃ D, Amd3 (v = .ref D) (n' = (D, tupO ys.toArray 0) :: (R, listOf ys.toArray c) :: (tl ++ (ext ++ ((L' + 1, od) :: news)))) (AllLt D ((R, listOf ys.toArray c) :: (tl ++ (ext ++ ((L' + 1, od) :: news)))))) (ev_ty (bi_tuple W)) (ev_local k3 rfl rfl) ?_) ?_) ?_ (by decide))
        · rintro v n' ⟨rfl, rfl⟩
          exact ⟨R, ys, c, rfl, .head _, hlen ▸ Nat.le_trans (Nat.sub_le _ _) (Nat.le_trans h4 (by decide)), fun D hD => ⟨D, rfl, rfl, hD⟩⟩
        · rintro v n' ⟨D, rfl, rfl, hD⟩
          refine (evsV_cons (ev_local k2 rfl rfl) evsV_nil).mono ?_
          rintro us n' ⟨rfl, rfl⟩
          exact ⟨D, rfl, rfl, hD⟩
        · rintro us n' ⟨D, rfl, rfl, hD⟩
          refine (law_at_con W _ _ _ (rateP ps) t (rateB m) k ⟨D, ys, 0, rfl, .head _, hall.mono fun _ _ h => h.mono fun p hp => .tail _ (.tail _ hp)⟩ (ht.mono fun p hp => .tail _ (.tail _ (mem_app (mem_app (.tail _ hp))))) (hrl ▸ Nat.le_sub_one_of_lt h2) (hrl ▸ Nat.le_trans (Nat.sub_le _ _) h4) (Nat.le_add_right 1 _) (by rw [hrl]; exact hb)).mono ?_
          rintro r n' ⟨tl2, rfl, ab2, hr⟩
          rw [hrl] at hr
          have hnews : ∀ q ∈ news, q ∈ (D, tupO ys.toArray 0) :: (R, listOf ys.toArray c) :: (tl ++ (ext ++ ((L' + 1, od) :: news))) := fun q hq => .tail _ (.tail _ (mem_app (mem_app (.tail _ hq))))
          have heq : tl2 ++ ((D, tupO ys.toArray 0) :: (R, listOf ys.toArray c) :: (tl ++ (ext ++ ((L' + 1, od) :: news)))) = (tl2 ++ ((D, tupO ys.toArray 0) :: (R, listOf ys.toArray c) :: (tl ++ (ext ++ [(L' + 1, od)])))) ++ news := by simp [List.append_assoc]
          refine ⟨_, heq, fun p hp q hq => ?_, by
            show PtIn (_ ++ news) _ _ _
            rw [← heq]
            exact hr⟩
          rcases List.mem_append.mp hp with hp | hp
          · exact ab2 p hp q (hnews q hq)
          rcases List.mem_cons.mp hp with rfl | hp
          · exact ktn_ltOf hD q (.tail _ (mem_app (mem_app (.tail _ hq))))
          rcases List.mem_cons.mp hp with rfl | hp
          · exact hRn q (.tail _ hq)
          rw [← List.append_assoc] at hp
          rcases List.mem_append.mp hp with hp | hp
          · exact Nat.lt_trans (hRn q (.tail _ hq)) (hgt p hp)
          · rw [List.mem_singleton.mp hp]
            exact Nat.lt_succ_of_lt (l1 q hq)

end Mine

end
section
set_option linter.unusedVariables false
open PySem PySem.W PyProof.Rows PySem.Calls
set_option Elab.async false
set_option maxRecDepth 100000
set_option maxHeartbeats 1000000
namespace Mine
section
variable {W : Wx} {room : Nat} {sc : Scope} {cl : List (Str × Addr)} {C : Cx W room sc cl} {en : Env} {l : Bnd} {news : Led}
/-- a loop over a list that stood before the frame -/
theorem itr_base {iter target : PySem.Expr} {r : Addr} {o : Obj} {vs : List Value} (hi : EvV C C.env l news iter (.ref r)) (hb : C.h₀.get? r = some o) (hL : IsL o vs) : Itr C l news iter target (vs.map .val) [] :=
  fun body E Q s F N k => hi E _ s F N fun v n h' tk F' N' ⟨e1, e2⟩ => by
    subst e1; subst e2
    obtain ⟨hc, c, hd⟩ := hL
    have hr := F'.keep r o hb
    have hne : r ≠ h'.objs.size := Nat.ne_of_lt (Heap.lt_size hr)
    have hlt : ∀ p ∈ n, p.1 < h'.objs.size := fun p hp => Heap.lt_size (N' p hp).1
    have hLI : C.L ≠ h'.objs.size := Nat.ne_of_lt F'.ns.lt
    have hLr : C.L ≠ r := (Nat.ne_of_lt (Nat.lt_of_lt_of_le (Heap.lt_size hb) F'.above)).symm
    have hh : C.A.handled = none := rfl
    refine wpAny_pyIter_list (s := { s with heap := h', toks := tk }) ⟨o, hr, hc, c, hd⟩ ?_
    have R := k [] [(h'.objs.size, "list_iterator")] [] h' tk Abv.nil (fun _ h => nomatch h) (fun p hp w hw => by rw [List.mem_singleton.mp hw]; exact Nat.ne_of_lt (hlt p hp))
    refine ⟨h'.objs.size, [h'.objs.size, r], [h'.objs.size], vs.toArray.size, _, _, _, look l, n, fun i m₁ n₁ => ItemsRest PR W.w C.A E C.h₀ C.env target body Q { s with heap := h', toks := tk } [(h'.objs.size, "list_iterator")] [] ((vs.map Itm.val).drop i) m₁ n₁, rfl, KTurns.ofWalks (Walks.list hh h'.objs.size r hne vs.toArray) (fun i v s Q E st q => letGo_listiter st.1 q), ?_, ?_, ?_, ?_, F'.push _, N'.grown fun _ _ e => Heap.get?_push_of_some _ e, R, ?_, ?_⟩
    · intro h
      rcases List.mem_cons.mp h with e | h
      · exact hLI e
      · exact hLr (List.mem_singleton.mp h)
    · intro b hb
      rw [List.mem_singleton.mp hb]
      exact next_is_new F'
    · intro p hp h
      exact Nat.lt_irrefl _ (List.mem_singleton.mp h ▸ hlt p hp)
    · exact ⟨⟨_, Heap.get?_push_size _ rfl, rfl, rfl⟩, o, Heap.get?_push_of_some _ hr, hc, c, hd⟩
    · intro i v m₁ n₁ h₁ tk₁ own hin hv hJ hoff hown hget hall hst F₁ N₁
      have hv' : (vs.map Itm.val)[i]? = some (.val v) := by
        rw [List.getElem?_map]
        exact congrArg (Option.map Itm.val) (show vs[i]? = some v by simpa using hv)
      have hdrop : (vs.map Itm.val).drop i = .val v :: (vs.map Itm.val).drop (i + 1) := by
        obtain ⟨hlt', e⟩ := List.getElem?_eq_some_iff.mp hv'
        rw [List.drop_eq_getElem_cons hlt', e]
      obtain ⟨⟨it, hit, hic, _⟩, _⟩ := hst
      have hmem : (h'.objs.size, it) ∈ own := hall _ (.head _) (next_is_new F') it hit
      have N₂ : News C.h₀ C.L h₁ ([(h'.objs.size, it)] ++ n₁) := fun p hp => by
        rcases List.mem_cons.mp hp with rfl | hp
        · exact N₁ _ (List.mem_append_left _ hmem)
        · exact N₁ _ (List.mem_append_right _ hp)
      rw [hdrop] at hJ
      have fin : ∀ s₃, UnrEndW C.h₀ C.L { s with heap := h₁, toks := tk₁ } [(h'.objs.size, it)] (fun m' n' => SubL [] n' ∧ ItemsRest PR W.w C.A E C.h₀ C.env target body Q { s with heap := h', toks := tk } [(h'.objs.size, "list_iterator")] [] ((vs.map Itm.val).drop (i + 1)) m' n') s₃ →
          LoopStepU C.h₀ C.L [h'.objs.size] own (fun m₁ n₁ => ItemsRest PR W.w C.A E C.h₀ C.env target body Q { s with heap := h', toks := tk } [(h'.objs.size, "list_iterator")] [] ((vs.map Itm.val).drop (i + 1)) m₁ n₁) { s with heap := h₁, toks := tk₁ } .next s₃ := by
        rintro s₃ ⟨h3, tk3, m3, n3, e, F3, N3, ho, _, r3⟩
        refine ⟨rfl, h3, tk3, m3, n3, e, F3, fun p hp => ?_, fun p hp hI => ho p hp _ (.head _) (List.mem_singleton.mp hI), r3⟩
        rcases List.mem_append.mp hp with hp | hp
        · rcases List.mem_cons.mp (hown p hp) with e | e
          · have h2 := hget p hp
            obtain ⟨pa, po⟩ := p
            have e' : pa = h'.objs.size := e
            subst e'
            have h6 : it = po := Option.some.inj (hit.symm.trans h2)
            subst h6
            exact N3 _ (.head _)
          · have := (N₁ p (List.mem_append_left _ hp)).2.2
            rw [List.mem_singleton.mp e, hb] at this
            cases this
        · exact N3 p (.tail _ hp)
      refine wpAny_mono (AllObj.at (its := [(h'.objs.size, it)]) (hJ v h₁ tk₁ rfl F₁) ⟨⟨rfl, hic⟩, True.intro⟩ N₂) (fun _ s₂ h₂ => wpAny_mono h₂ (fun f s₃ p => ?_) fun _ _ e => e) fun _ _ e => e
      cases f with
      | ret v => exact .ret p
      | brk => exact .brk p
      | next => exact .next (fin _ p)
      | cont => exact .cont (fin _ p)
    · intro h2 tk2 m2 n2 F2 N2 _ hJ
      have z : (vs.map Itm.val).drop vs.toArray.size = [] := List.drop_eq_nil_of_le (by simp)
      rw [z] at hJ
      exact hJ h2 tk2 F2 N2
/-- a call of a def upon what stood before the frame: its body -/
theorem ev_enter {fe e : PySem.Expr} {p : Pos} {f r : Addr} {o : Obj} {room2 : Nat} {R : Value → Led → Prop} {name qual : Str} {params : Arguments} {body : List Stmt} {scope : Scope} {dV kV doc pm cdv ct oc : Value} {an od : Option Addr} {osl : Array (Option Value)} {v : Value} (binds : List (Str × Value)) {l2 : Bnd}
    (hb : C.h₀.get? r = some o) (hf : EvV C en l news fe (.ref f)) (hkp : keepIn (hd.heap_39 W.w.params) (.ref f) = true) (ha : EvV C en l news e v)
    (ho : (hd.heap_39 W.w.params).lookup f = some ⟨oc, od, .func (fnOf name qual params body scope dV kV doc pm an cdv ct), osl⟩) (hcd : codeIn (hd.heap_39 W.w.params) cdv qual = true)
    (hbind : bindArgs (fnOf name qual params body scope dV kV doc pm an cdv ct) ⟨[v], []⟩ = pure binds) (hloc : (binds.all fun x => decide (scope.names.lookup x.1 = some .local)) = true)
    (hco : scope.isCoroutine = false) (hgen : scope.isGenerator = false) (hk : scope.kind = .function) (hcell : ∀ x ∈ scope.names, x.2 ≠ .cell) (hr : room2 + 1 ≤ room)
    (hl : binds.reverse = l2) (hbody : ∀ C' : Cx W room2 scope [], C'.h₀.get? r = some o → Ex C' C'.env l2 news body R (fun _ _ => False))
    (he : starEach [e] en = (false, eval e en) :: starEach [] en) (hplain : ∀ pos, (backTo pos (starEach [] en)).any (·.1) = false)
    (hst : eval (.Call fe [e] [] p) en = (do callWith p (← eval fe en) [] (backTo p (starEach [e] en)) (backToKw p (keywordEach [] en)))) : Ev C en l news (.Call fe [e] [] p) R :=
  fun E Q s F N q => Call_ (hf E _ s F N fun v' n h' tk F' N' ⟨e1, e2⟩ => by
    subst e1; subst e2; subst hl
    refine callWith_K C.X hkp (evsV_cons ha evsV_nil he p E _ _ F' N' fun vs n h2 tk2 F2 N2 ⟨e3, e4⟩ => ⟨C.X.keeps F2.keep, ?_⟩) he (hplain p)
    subst e3; subst e4
    rw [List.nil_append]
    have hd1 := C.hdp
    have hu1 := C.hun
    refine wpAny_call (code_def C.B F2 C.X N2 C.T rfl rfl C.hk ho hcd (Nat.lt_of_le_of_lt (Nat.le_add_right _ _) hd1) (BindsTo.of_eq hbind) (locs hloc) (fun g L' h₁ FG F3 N3 B3 X3 T3 => ?_) hco hgen hk hcell)
    refine hbody ⟨C.dp + 1, C.un + 3, C.gd, qual, f, cdv, C.env :: C.outer, _, C.base, g, L', B3, X3, T3, hk, by omega, by omega⟩ (FG.keep r o hb) _ _ _ PassesOwn.leaving F3 N3 ?_ ?_
    · intro v l' n' h' tk' F4 N4 p
      exact leaveK_ F4 N4 fun F5 N5 => q v n' h' tk' F5 N5 p
    · intro l' n' h' tk' F4 N4 p
      exact p.elim) hst
theorem ev_ifexp {t a b : PySem.Expr} {p : Pos} {P : Bool → Led → Prop} {post : Value → Led → Prop} (ht : Tst C en l news t P) (h1 : ∀ n, P true n → Ev C en l n a post) (h2 : ∀ n, P false n → Ev C en l n b post) : Ev C en l news (.IfExp t a b p) post :=
  fun E Q s F N q => wpAny_IfExp (ht _ E _ s F N fun c n h' tk F' N' px => by
    cases c with
    | true => exact h1 n px E Q _ F' N' q
    | false => exact h2 n px E Q _ F' N' q)
/-- a, b, c = (.., .., ..) -/
theorem ex_set3s {x y z : Str} {e : PySem.Expr} {p1 p2 p3 p4 p5 : Pos} {k0 : Nat} {ss : List Stmt} {P : Value → Led → Prop} {R : Value → Led → Prop} {N : Bnd → Led → Prop} (he : Ev C C.env l news e P) (hx : (envX C.cn sc C.L C.fa C.ccd cl).kindOf x = some .local) (hy : (envX C.cn sc C.L C.fa C.ccd cl).kindOf y = some .local) (hz : (envX C.cn sc C.L C.fa C.ccd cl).kindOf z = some .local)
    (hs1 : swapsWithSole [.Tuple [.Name x p1, .Name y p2, .Name z p5] k0 p3] e p4.line C.env = pure false) (hs2 : swappedStores [.Tuple [.Name x p1, .Name y p2, .Name z p5] k0 p3] e C.env = pure (some [x, y, z]))
    (k : ∀ v n, P v n → Som5 fun r c v1 v2 v3 => Amd3 (v = .ref r) ((r, tupO #[v1, v2, v3] c) ∈ n) (Ex C C.env ((x, v1) :: (y, v2) :: (z, v3) :: l) n ss R N)) : Ex C C.env l news (.Assign [.Tuple [.Name x p1, .Name y p2, .Name z p5] k0 p3] e p4 :: ss) R N :=
  fun E Q s pe F Nw r kn => wpAny_execs_cons (Assign_Tuple_swapped (names := [x, y, z]) (he E _ s F Nw fun v n h' tk F' N' p => by
    obtain ⟨rr, c, v1, v2, v3, e1, hm, kk⟩ := k v n p
    subst e1
    refine unpackItemsN_ F' N' (items := #[v1, v2, v3]) ⟨_, (N' _ hm).1, rfl, c, rfl⟩ rfl rfl fun h2 F2 N2 => ?_
    refine assignInOrder_cons (bindName_ (st_op F2 N2 hz fun h3 F3 N3 => ?_))
    refine assignInOrder_cons (bindName_ (st_op F3 N3 hy fun h4 F4 N4 => ?_))
    refine assignInOrder_cons (bindName_ (st_op F4 N4 hx fun h5 F5 N5 => ?_))
    exact assignInOrder_nil (kk E Q _ pe F5 N5 r kn)) hs1 hs2)
/-- an int, some int -/
def IntE (P : Int → Led → Prop) (r : Value) (n : Led) : Prop := Som2 fun k t => r = .int k t ∧ P k n
theorem ev_addE {a b : PySem.Expr} {p : Pos} {x : Int} {P0 : Int → Led → Prop} (ha : EvI C en l news a x) (hb : Ev C en l news b (IntE P0)) : Ev C en l news (.BinOp a .Add b p) (IntE fun k n => ∃ j, k = x + j ∧ P0 j n) :=
  fun E Q s F N q => wpAny_BinOp (ha E _ s F N fun v n h' tk F' N' ⟨⟨t, e1⟩, e2⟩ => by
    subst e1; subst e2
    exact hb E _ _ F' N' fun v n h2 tk2 F2 N2 ⟨k, t2, e3, hp⟩ => by
      subst e3
      exact P.add_int (q _ n h2 _ F2 N2 ⟨_, _, rfl, k, rfl, hp⟩))
theorem ev_rangeE {e : PySem.Expr} {p o : Pos} {P : Int → Led → Prop} (hf : EvV C en l news (.Name (Str.ofString "range") o) (.type "range")) (ha : Ev C en l news e (IntE P))
    (he : starEach [e] en = (false, eval e en) :: starEach [] en)
    (hst : eval (.Call (.Name (Str.ofString "range") o) [e] [] p) en = (do callWith p (← eval (.Name (Str.ofString "range") o) en) [] (backTo p (starEach [e] en)) (backToKw p (keywordEach [] en)))) : Ev C en l news (.Call (.Name (Str.ofString "range") o) [e] [] p) (fun v n => ∃ x, Rng 0 x (P x) v n) :=
  ev_ty1 hf ha (fun v n E Q s ⟨x, t, e1, pn⟩ F N q => by
    subst e1
    obtain ⟨F2, N2, l2⟩ := rng_new (a := 0) (b := x) (t := s.toks) (u := t) (v := s.toks + 1) F N
    exact call_range_1 (q _ _ _ _ F2 N2 ⟨x, _, _, _, _, n, rfl, rfl, l2, pn⟩)) he (fun _ => rfl) hst
theorem ev_compE {elt iter : PySem.Expr} {x : Str} {px pos : Pos} {scope : Scope} {clo : List (Str × Addr)} {P0 : Int → Led → Prop} {post : Value → Led → Prop} (Inv : Nat → Nat → List Value → Led → Prop) (hit : Ev C C.env l news iter (fun v m => ∃ n, Rng 0 n (P0 n) v m)) (h0 : ∀ n n0, P0 n n0 → ∃ k : Nat, Amd3 (n = k) (k ≤ 16384) (Inv k 0 [] n0))
    (turn : ∀ n i t ys nx I oI Cc oC D m₂, i < n → Inv n i ys nx → LCg.NsObj oC m₂ → m₂ x = some (.int (i : Int) t) → LCg.Off3 I Cc D nx → Ev C (compEnvC scope clo Cc C.env) l ((I, oI) :: (Cc, oC) :: (D, LCg.lst ys) :: nx) elt (Elt I oI Cc oC D ys (Inv n (i + 1))))
    (fin : ∀ n D ys nx, Inv n n ys nx → LCg.Off1 D nx → post (.ref D) ((D, listOf ys.toArray ys.length) :: nx))
    (hclos : closureFor scope C.env = pure clo) (hcell : ∀ y ∈ scope.names, y.2 ≠ .cell) (hkind : scope.kind = .function) (hnames : ∀ y ∈ scope.names, y.2 = .local → scope.names.lookup y.1 = some .local) (hx : scope.names.lookup x = some .local)
    (hs : ∀ x, foldedSetIterable iter C.env x = pure x) : Ev C C.env l news (.ListComp elt [⟨.Name x px, iter, [], 0⟩] scope pos) post :=
  fun E Q s F N q => LCg.ListComp_U F hclos hcell hkind hnames hx (hit E _ s F N fun v n1 h' tk F' N' ⟨nn, D, t, u, w, n0, e1, e2, ll, p0⟩ => by
    subst e1; subst e2
    obtain ⟨n, rfl, hn, hI0⟩ := h0 _ _ p0
    refine comp_range (s := { s with heap := h', toks := tk }) n rfl F' (cb_drop N' fun p hp => .tail _ hp) (N' _ (.head _)).1 rfl hn (Inv n) hI0 ?_ ?_
    · intro i t ys nx I oI Cc oC D m₂ h tk E' hi hI hC hv F1 N1 off
      refine turn n i t ys nx I oI Cc oC D m₂ hi hI hC hv off E' _ { s with heap := h, toks := tk } F1 N1 ?_
      rintro y m h2 tk2 F2 N2 ⟨nx', hsub, off', hI'⟩
      exact LCg.CompEnd.intro F2 N2 nx' hsub off' True.intro hI'
    · intro ys nx D h tk hI F1 N1 off
      exact q _ _ _ _ F1 N1 (fin n D ys nx hI off)) hs
theorem ex_ifM {t : PySem.Expr} {a b : List Stmt} {p : Pos} {ss : List Stmt} {R : Value → Led → Prop} {N : Bnd → Led → Prop} {P : Bool → Led → Prop} (Mid : Bnd → Led → Prop) (ht : Tst C en l news t P) (h1 : ∀ n, P true n → Ex C en l n a R Mid) (h2 : ∀ n, P false n → Ex C en l n b R Mid) (k : ∀ l' n', Mid l' n' → Ex C en l' n' ss R N) : Ex C en l news (.If t a b p :: ss) R N :=
  ex_ifT ht (fun n h => (h1 n h).mono (fun _ _ h => h) k) (fun n h => (h2 n h).mono (fun _ _ h => h) k)
end

end Mine

end
section
set_option linter.unusedVariables false
open PySem PySem.W PyProof.Rows PySem.Calls
set_option Elab.async false
set_option maxRecDepth 100000
set_option maxHeartbeats 1000000
namespace Mine
theorem ev_pool {W : Wx} {room : Nat} {sc : Scope} {cl : List (Str × Addr)} {C : Cx W room sc cl} {l : Bnd} {news : Led} {e : PySem.Expr} {o p : Pos} {r : Addr} {ob : Obj} {vs : List Value} (hroom : 2 ≤ room) (hb : C.h₀.get? r = some ob) (hL : IsL ob vs) (hI : ∀ (i : Nat) (v : Value), vs[i]? = some v → Som2 fun x t => v = .int x t)
    (hf : EvV C C.env l news (.Name (Str.ofString "_law_pool") o) (.ref 167)) (he1 : EvV C C.env l news e (.ref r)) (he : starEach [e] C.env = (false, eval e C.env) :: starEach [] C.env) (hplain : ∀ pos, (backTo pos (starEach [] C.env)).any (·.1) = false)
    (hst : eval (.Call (.Name (Str.ofString "_law_pool") o) [e] [] p) C.env = (do callWith p (← eval (.Name (Str.ofString "_law_pool") o) C.env) [] (backTo p (starEach [e] C.env)) (backToKw p (keywordEach [] C.env)))) :
    Ev C C.env l news (.Call (.Name (Str.ofString "_law_pool") o) [e] [] p) (fun v n => Som2 fun D ob' => Amd4 (v = .ref D) (SrcO ob') (n = (D, ob') :: news) (AllLt D news)) := by
  refine' ev_enter (room2 := 1) [(Str.ofString "script", .ref r)] (l2 := [(Str.ofString "script", .ref r)]) hb hf (fn_law_pool W).2 he1 ?ho ?hcd ?hbind ?hloc ?h1 ?h2 ?h3 ?h4 hroom rfl ?body he hplain hst
  case ho => k_is
  case hcd => k_is
  case hbind => exact rfl
  case hloc => exact rfl
  case h1 => exact rfl
  case h2 => exact rfl
  case h3 => exact rfl
  case h4 => decide
  case body =>
    intro C' hb'
    refine ex_set2 (ev_tuple (P := fun vs n => (Som2 fun u1 u2 => vs = [.int 0 u1, .int 61 u2]) ∧ n = news) (post := fun v n => Som3 fun D u1 u2 => v = .ref D ∧ n = (D, tupO #[.int 0 u1, .int 61 u2] 0) :: news) (evs_cons evI_const ?_) ?_) rfl rfl rfl rfl ?_
    · rintro v n ⟨⟨u, rfl⟩, rfl⟩
      refine evs_cons evI_const ?_
      rintro v n ⟨⟨u2, rfl⟩, rfl⟩
      refine evs_nil.mono ?_
      rintro vs n ⟨rfl, rfl⟩
      exact ⟨⟨u, u2, rfl⟩, rfl⟩
    · rintro vs n D ⟨⟨u, u2, rfl⟩, rfl⟩ hD
      exact ⟨Nat.le_of_ble_eq_true rfl, D, u, u2, rfl, rfl⟩
    rintro v n ⟨D, u, u2, rfl, rfl⟩
    refine ⟨D, 0, _, _, rfl, .head _, Ex.sub (news' := news) ?_ fun p hp => .tail _ hp⟩
    refine ex_for (vs.map .val) [] (fun ext i l' n => n = ext ++ news ∧ Som4 fun d x u1 u2 => Amd5 (look l' (Str.ofString "digits") = some (.int d u1)) (look l' (Str.ofString "mixed_here") = some (.int x u2)) (0 ≤ d) (0 ≤ x) (x < 2147483647))
      (itr_base (ev_local rfl rfl rfl) hb' hL) (fun ext hab => ⟨rfl, 0, 61, _, _, rfl, rfl, by decide, by decide, by decide⟩) (fun ext i l' n ⟨e, _⟩ p hp => e ▸ mem_l (by rw [List.append_nil] at hp; exact hp)) ?_ ?_
    · rintro ext i a l' n its hi ⟨rfl, d, x, u1, u2, k1, k2, hd, hx, hx2⟩ hap
      rw [List.getElem?_map, Option.map_eq_some_iff] at hi
      obtain ⟨v, hv, rfl⟩ := hi
      obtain ⟨z, tz, rfl⟩ := hI i v hv
      refine trn_val rfl ?_
      generalize hn : its ++ (ext ++ news) = n
      refine ex_set (P := fun v n' => Som2 fun w t => Amd3 (v = .int w t) (0 ≤ w) (n' = n)) ?s1 ?s2 ?s3 ?s4
      case s2 => exact rfl
      case s3 => exact rfl
      case s1 =>
        refine ev_ifexp (tst_int (c := decide (0 ≤ z)) (evI_of (ev_local look_head rfl rfl)) evI_const rfl rfl) ?_ ?_
        · rintro n' ⟨h, rfl⟩
          refine (evI_of (ev_local look_head rfl rfl)).mono ?_
          rintro v n ⟨⟨t, rfl⟩, rfl⟩
          exact ⟨z, t, rfl, of_decide_eq_true h.symm, rfl⟩
        · rintro n' ⟨h, rfl⟩
          refine (evI_sub (evI_neg evI_const) (evI_of (ev_local look_head rfl rfl))).mono ?_
          rintro v n ⟨⟨t, rfl⟩, rfl⟩
          exact ⟨_, t, rfl, by have := of_decide_eq_false h.symm; omega, rfl⟩
      case s4 =>
        rintro v n' ⟨w, tw, rfl, hw, rfl⟩
        refine ex_ifM (P := fun c m => m = n') (fun l2 m => m = n' ∧ look l2 (Str.ofString "mixed_here") = some (.int x u2) ∧ look l2 (Str.ofString "size") = some (.int w tw) ∧ Som2 fun d u1 => look l2 (Str.ofString "digits") = some (.int d u1) ∧ 0 ≤ d) (tst_and (Px := fun c m => m = n') (P := fun c m => m = n') (Tst.mono (tst_int (c := decide (10 ^ 18 ≤ w)) (evI_of (ev_local look_head rfl rfl)) (evI_pow evI_const evI_const (by decide) (by decide)) rfl rfl) fun c m h => h.2) ?_ (fun n h => h)) ?_ ?_ ?_
        · rintro m rfl
          exact tst_and (Px := fun c m' => m' = m) (Tst.mono (tst_int (c := decide (d = 0)) (evI_of (ev_local ((look_tail rfl).trans ((look_tail rfl).trans k1)) rfl rfl)) evI_const rfl rfl) fun c m h => h.2) (fun n h => h ▸ tst_and0 rfl) (fun n h => h)
        · rintro m rfl
          refine ex_set (ev_local look_head rfl rfl) ?_ ?_ ?_
          · exact rfl
          · exact rfl
          · rintro v n ⟨rfl, rfl⟩
            exact ex_nil ⟨rfl, (look_tail rfl).trans ((look_tail rfl).trans ((look_tail rfl).trans k2)), (look_tail rfl).trans look_head, w, tw, look_head, hw⟩
        · rintro m rfl
          exact ex_nil ⟨rfl, (look_tail rfl).trans ((look_tail rfl).trans k2), look_head, d, u1, (look_tail rfl).trans ((look_tail rfl).trans k1), hd⟩
        · rintro l2 m ⟨rfl, j2, j3, d, u1, j1, j0⟩
          refine ex_set (evI_mod (evI_add (evI_add (evI_mul (evI_of (ev_local j2 rfl rfl)) evI_const ?_) (evI_mod (evI_of (ev_local j3 rfl rfl)) evI_const ?_)) evI_const) evI_const ?_) ?_ ?_ ?_
          · exact IntMulOk.of_le (n := 16) (bits31 hx hx2) (by decide) (by decide)
          · decide
          · decide
          · exact rfl
          · exact rfl
          · rintro v n ⟨⟨t, rfl⟩, rfl⟩
            exact ex_nil ⟨ext ++ news, fun p hp => hn ▸ mem_l hp, fun p hp => hn ▸ mem_app hp, hap, rfl, d, _, u1, t, (look_tail rfl).trans j1, look_head, j0, Int.fmod_nonneg_of_pos _ (by decide), Int.fmod_lt_of_pos _ (by decide)⟩
    · rintro ext l' n ⟨rfl, d, x, u1, u2, k1, k2, hd, hx, hx2⟩
      refine Ex.sub (news' := news) ?_ fun p hp => mem_app hp
      refine ex_ret (ev_list (P := fun us n => (Som2 fun t1 t2 => us = [.int d t1, .int x t2]) ∧ n = news) (evs_cons (ev_local k1 rfl rfl) ?_) ?_)
      · rintro v n ⟨rfl, rfl⟩
        refine evs_cons (ev_local k2 rfl rfl) ?_
        rintro v n ⟨rfl, rfl⟩
        refine evs_nil.mono ?_
        rintro us n ⟨rfl, rfl⟩
        exact ⟨⟨u1, u2, rfl⟩, rfl⟩
      · rintro us n D ⟨⟨t1, t2, rfl⟩, rfl⟩ hD
        exact ⟨Nat.le_of_ble_eq_true rfl, D, _, rfl, ⟨d, x, t1, t2, isL _ _, hd, hx, hx2⟩, rfl, hD⟩

end Mine

end
section
set_option linter.unusedVariables false
open PySem PySem.W PyProof.Rows PySem.Calls
set_option Elab.async false
set_option maxRecDepth 100000
set_option maxHeartbeats 1000000
namespace Mine
theorem sumQ_val : ∀ (qs : List (Int × Int)) (s : Int × Int), 0 < s.2 → (∀ q ∈ qs, 0 < q.2) → Rat.divInt (qs.foldl sumS s).1 (qs.foldl sumS s).2 = (qs.map fun q => Rat.divInt q.1 q.2).foldl (· + ·) (Rat.divInt s.1 s.2)
  | [], s, _, _ => rfl
  | q :: r, s, h, hq => by
    have hq0 := hq q (.head _)
    have := sumQ_val r (sumS s q) (Int.mul_pos h hq0) (fun x hx => hq x (.tail _ hx))
    rw [List.foldl_cons, this, sumS_rat h hq0]
    rfl
theorem mulPow (a b : Rat) : ∀ n : Nat, (a * b) ^ n = a ^ n * b ^ n
  | 0 => by rw [Rat.pow_zero, Rat.pow_zero, Rat.pow_zero, Rat.mul_one]
  | n + 1 => by
    rw [Rat.pow_succ, Rat.pow_succ, Rat.pow_succ, mulPow a b n]
    grind
theorem den_ne (x : Rat) : ((x.den : Int) : Rat) ≠ 0 := fun h => by
  have := x.den_nz
  rw [Rat.intCast_natCast] at h
  exact this (Rat.natCast_eq_zero_iff.mp h)
theorem num_rat (x : Rat) : (x.num : Rat) = x * ((x.den : Int) : Rat) := by
  have h := Rat.num_divInt_den x
  rw [Rat.divInt_eq_div] at h
  have hd := den_ne x
  grind
theorem powAdd (a : Rat) (m : Nat) : ∀ n : Nat, a ^ (m + n) = a ^ m * a ^ n
  | 0 => by rw [Nat.add_zero, Rat.pow_zero, Rat.mul_one]
  | n + 1 => by
    rw [← Nat.add_assoc, Rat.pow_succ, Rat.pow_succ, powAdd a m n, Rat.mul_assoc]
theorem pow_ne {a : Rat} (h : a ≠ 0) : ∀ n : Nat, a ^ n ≠ 0
  | 0 => by rw [Rat.pow_zero]; decide
  | n + 1 => by
    rw [Rat.pow_succ]
    have := pow_ne h n
    grind
theorem divI (a b : Int) (c : Rat) (hb : (b : Rat) ≠ 0) (h : (a : Rat) = c * (b : Rat)) : Rat.divInt a b = c := by
  rw [Rat.divInt_eq_div, h, Rat.mul_div_cancel hb]
theorem term_val (c : Int) (x t : Rat) (k j : Nat) : Rat.divInt (c * x.num * t.num ^ k * ((t.den : Int) - t.num) ^ j) ((x.den : Int) * (t.den : Int) ^ (k + j)) = c * x * t ^ k * (1 - t) ^ j := by
  have hx := den_ne x
  have ht := den_ne t
  refine divI _ _ _ ?_ ?_
  · rw [Rat.intCast_mul, Rat.intCast_pow]
    have := pow_ne ht (k + j)
    grind
  · rw [Rat.intCast_mul, Rat.intCast_mul, Rat.intCast_mul, Rat.intCast_mul, Rat.intCast_pow, Rat.intCast_pow, Rat.intCast_pow, Rat.intCast_sub, num_rat x, num_rat t]
    have e : ((t.den : Int) : Rat) - t * ((t.den : Int) : Rat) = (1 - t) * ((t.den : Int) : Rat) := by grind
    rw [e, mulPow, mulPow, powAdd]
    grind
theorem axis_val {ps : List Pt} (h : 1 ≤ ps.length) (t : Rat) (i : Nat) : axisR ps t i = ((List.range ps.length).map fun k => (binC (ps.length - 1) k : Rat) * ax i (ps.getD k Z2) * t ^ k * (1 - t) ^ (ps.length - 1 - k)).foldl (· + ·) 0 := by
  unfold axisR sumQ
  rw [sumQ_val _ (0, 1) (by decide)]
  · unfold termsQ
    rw [List.map_map]
    refine congrArg (fun l => List.foldl (· + ·) 0 l) (List.map_congr_left fun k hk => ?_)
    have hk' := List.mem_range.mp hk
    have e : ps.length - 1 = k + (ps.length - 1 - k) := (Nat.add_sub_of_le (Nat.le_sub_one_of_lt hk')).symm
    have := term_val (binC (ps.length - 1) k) (ax i (ps.getD k Z2)) t k (ps.length - 1 - k)
    rw [← e] at this
    exact this
  · intro q hq
    obtain ⟨k, _, rfl⟩ := List.mem_map.mp hq
    exact Int.mul_pos (den_pos _) (Int.pow_pos (den_pos t))
theorem axis1 (a : Pt) (t : Rat) (i : Nat) : axisR [a] t i = ax i a := by
  rw [axis_val (Nat.le_of_ble_eq_true rfl)]
  show 0 + ((1 : Int) : Rat) * ax i a * t ^ 0 * (1 - t) ^ 0 = _
  grind
theorem axis2 (a b : Pt) (t : Rat) (i : Nat) : axisR [a, b] t i = ax i a * (1 - t) + ax i b * t := by
  rw [axis_val (Nat.le_of_ble_eq_true rfl)]
  show 0 + ((1 : Int) : Rat) * ax i a * t ^ 0 * (1 - t) ^ 1 + ((1 : Int) : Rat) * ax i b * t ^ 1 * (1 - t) ^ 0 = _
  grind
theorem axis3 (a b c : Pt) (t : Rat) (i : Nat) : axisR [a, b, c] t i = ax i a * (1 - t) ^ 2 + 2 * ax i b * t * (1 - t) + ax i c * t ^ 2 := by
  rw [axis_val (Nat.le_of_ble_eq_true rfl)]
  show 0 + ((1 : Int) : Rat) * ax i a * t ^ 0 * (1 - t) ^ 2 + ((2 : Int) : Rat) * ax i b * t ^ 1 * (1 - t) ^ 1 + ((1 : Int) : Rat) * ax i c * t ^ 2 * (1 - t) ^ 0 = _
  grind
theorem axis4 (a b c d : Pt) (t : Rat) (i : Nat) : axisR [a, b, c, d] t i = ax i a * (1 - t) ^ 3 + 3 * ax i b * t * (1 - t) ^ 2 + 3 * ax i c * t ^ 2 * (1 - t) + ax i d * t ^ 3 := by
  rw [axis_val (Nat.le_of_ble_eq_true rfl)]
  show 0 + ((1 : Int) : Rat) * ax i a * t ^ 0 * (1 - t) ^ 3 + ((3 : Int) : Rat) * ax i b * t ^ 1 * (1 - t) ^ 2 + ((3 : Int) : Rat) * ax i c * t ^ 2 * (1 - t) ^ 1 + ((1 : Int) : Rat) * ax i d * t ^ 3 * (1 - t) ^ 0 = _
  grind

end Mine

end
section
set_option linter.unusedVariables false
open PySem PySem.W PyProof.Rows PySem.Calls
set_option Elab.async false
set_option maxRecDepth 100000
set_option maxHeartbeats 1000000
namespace Mine
theorem pair_val (a b : Int) (p q : Rat) : Rat.divInt (a * p.num * q.num) ((p.den : Int) * q.den) = a * p * q := by
  have h1 := den_ne p
  have h2 := den_ne q
  refine divI _ _ _ ?_ ?_
  · rw [Rat.intCast_mul]
    grind
  · rw [Rat.intCast_mul, Rat.intCast_mul, Rat.intCast_mul, num_rat p, num_rat q]
    grind
theorem bet_val (t u s : Rat) : betweenR t u s = t + s * u - s * t := by
  unfold betweenR sumQ
  rw [sumQ_val _ (0, 1) (by decide)]
  · have h1 := pair_val 1 0 s u
    have h2 := pair_val (-1) 0 s t
    rw [Int.one_mul] at h1
    have h3 : (-1 : Int) * s.num * t.num = -s.num * t.num := by rw [Int.neg_mul, Int.one_mul]
    rw [h3] at h2
    show 0 + Rat.divInt t.num t.den + Rat.divInt (s.num * u.num) ((s.den : Int) * u.den) + Rat.divInt (-s.num * t.num) ((s.den : Int) * t.den) = _
    rw [h1, h2, Rat.num_divInt_den]
    grind
  · intro q hq
    rcases List.mem_cons.mp hq with rfl | hq
    · exact den_pos t
    rcases List.mem_cons.mp hq with rfl | hq
    · exact Int.mul_pos (den_pos s) (den_pos u)
    rw [List.mem_singleton.mp hq]
    exact Int.mul_pos (den_pos s) (den_pos t)
theorem one_val (a : Int) (p : Rat) : Rat.divInt (a * p.num) (p.den : Int) = a * p := by
  have h1 := den_ne p
  refine divI _ _ _ h1 ?_
  rw [Rat.intCast_mul, num_rat p]
  grind
theorem rate_val (d : Int) (p q : Pt) (k : Nat) : rateR d p q k = d * (ax k q - ax k p) := by
  unfold rateR sumQ
  rw [sumQ_val _ (0, 1) (by decide)]
  · show 0 + Rat.divInt (d * (ax k q).num) (ax k q).den + Rat.divInt (-d * (ax k p).num) (ax k p).den = _
    rw [one_val, one_val]
    grind
  · intro x hx
    rcases List.mem_cons.mp hx with rfl | hx
    · exact den_pos _
    rw [List.mem_singleton.mp hx]
    exact den_pos _
theorem ax_mix (i : Nat) (p q : Pt) (t : Rat) : ax i (mixP p q t) = ax i p + t * (ax i q - ax i p) := by
  unfold ax mixP mx
  split <;> rfl
theorem law_ext {ps qs : List Pt} {t s : Rat} (h : ∀ i, axisR ps t i = axisR qs s i) : lawAt ps t = lawAt qs s := Prod.ext (h 0) (h 1)
theorem pt_ext {p : Pt} {qs : List Pt} {s : Rat} (h : ∀ i, ax i p = axisR qs s i) : p = lawAt qs s := Prod.ext (h 0) (h 1)
theorem split2 (a b : Pt) (t s : Rat) : SplitOk [a, b] t s where
  a1 := rfl
  a2 := rfl
  a3 := rfl
  a4 := pt_ext fun i => by
    show ax i (mixP a b t) = _
    rw [axis2]
    simp only [ax_mix]
    generalize ax i a = x0
    generalize ax i b = x1
    grind
  a5 := law_ext fun i => by
    show axisR [a, mixP a b t] s i = _
    rw [axis2, axis2, bet_val]
    simp only [ax_mix]
    generalize ax i a = x0
    generalize ax i b = x1
    grind
  a6 := law_ext fun i => by
    show axisR [mixP a b t, b] s i = _
    rw [axis2, axis2, bet_val]
    simp only [ax_mix]
    generalize ax i a = x0
    generalize ax i b = x1
    grind
theorem split3 (a b c : Pt) (t s : Rat) : SplitOk [a, b, c] t s where
  a1 := rfl
  a2 := rfl
  a3 := rfl
  a4 := pt_ext fun i => by
    show ax i (mixP (mixP a b t) (mixP b c t) t) = _
    rw [axis3]
    simp only [ax_mix]
    generalize ax i a = x0
    generalize ax i b = x1
    generalize ax i c = x2
    grind
  a5 := law_ext fun i => by
    show axisR [a, mixP a b t, mixP (mixP a b t) (mixP b c t) t] s i = _
    rw [axis3, axis3, bet_val]
    simp only [ax_mix]
    generalize ax i a = x0
    generalize ax i b = x1
    generalize ax i c = x2
    grind
  a6 := law_ext fun i => by
    show axisR [mixP (mixP a b t) (mixP b c t) t, mixP b c t, c] s i = _
    rw [axis3, axis3, bet_val]
    simp only [ax_mix]
    generalize ax i a = x0
    generalize ax i b = x1
    generalize ax i c = x2
    grind
theorem split4 (a b c d : Pt) (t s : Rat) : SplitOk [a, b, c, d] t s where
  a1 := rfl
  a2 := rfl
  a3 := rfl
  a4 := pt_ext fun i => by
    show ax i (mixP (mixP (mixP a b t) (mixP b c t) t) (mixP (mixP b c t) (mixP c d t) t) t) = _
    rw [axis4]
    simp only [ax_mix]
    generalize ax i a = x0
    generalize ax i b = x1
    generalize ax i c = x2
    generalize ax i d = x3
    grind
  a5 := law_ext fun i => by
    show axisR [a, mixP a b t, mixP (mixP a b t) (mixP b c t) t, mixP (mixP (mixP a b t) (mixP b c t) t) (mixP (mixP b c t) (mixP c d t) t) t] s i = _
    rw [axis4, axis4, bet_val]
    simp only [ax_mix]
    generalize ax i a = x0
    generalize ax i b = x1
    generalize ax i c = x2
    generalize ax i d = x3
    grind
  a6 := law_ext fun i => by
    show axisR [mixP (mixP (mixP a b t) (mixP b c t) t) (mixP (mixP b c t) (mixP c d t) t) t, mixP (mixP b c t) (mixP c d t) t, mixP c d t, d] s i = _
    rw [axis4, axis4, bet_val]
    simp only [ax_mix]
    generalize ax i a = x0
    generalize ax i b = x1
    generalize ax i c = x2
    generalize ax i d = x3
    grind
theorem split_ok {ps : List Pt} (h2 : 2 ≤ ps.length) (h4 : ps.length ≤ 4) (t s : Rat) : SplitOk ps t s := by
  match ps, h2, h4 with
  | [a, b], _, _ => exact split2 a b t s
  | [a, b, c], _, _ => exact split3 a b c t s
  | [a, b, c, d], _, _ => exact split4 a b c d t s
  | _ :: _ :: _ :: _ :: _ :: r, _, h => exact absurd h (by simp)

end Mine

end
section
set_option linter.unusedVariables false
open PySem PySem.W PyProof.Rows PySem.Calls
set_option Elab.async false
set_option maxRecDepth 100000
set_option maxHeartbeats 1000000
namespace Mine
theorem at_law {ps : List Pt} (h1 : 1 ≤ ps.length) (h4 : ps.length ≤ 4) (t : Rat) : atP t ps = lawAt ps t := by
  match ps, h1, h4 with
  | [a], _, _ => exact pt_ext (p := a) fun i => (axis1 a t i).symm
  | [a, b], _, _ => exact (split2 a b t 0).a4
  | [a, b, c], _, _ => exact (split3 a b c t 0).a4
  | [a, b, c, d], _, _ => exact (split4 a b c d t 0).a4
  | _ :: _ :: _ :: _ :: _ :: r, _, h => exact absurd h (by simp)
theorem der_rate (ps : List Pt) : derP ps = rateP ps := by
  unfold derP rateP
  refine List.map_congr_left fun k _ => ?_
  unfold derPt
  rw [rate_val, rate_val, divI ((ps.length : Int) - 1) 1 ((ps.length : Int) - 1 : Int) (by decide) (Rat.mul_one _).symm]
  rfl
theorem rev_law {ps : List Pt} (h2 : 2 ≤ ps.length) (h4 : ps.length ≤ 4) (s : Rat) : lawAt ps.reverse s = lawAt ps (betweenR 1 0 s) := by
  refine law_ext fun i => ?_
  rw [bet_val]
  match ps, h2, h4 with
  | [a, b], _, _ =>
    show axisR [b, a] s i = _
    rw [axis2, axis2]
    grind
  | [a, b, c], _, _ =>
    show axisR [c, b, a] s i = _
    rw [axis3, axis3]
    grind
  | [a, b, c, d], _, _ =>
    show axisR [d, c, b, a] s i = _
    rw [axis4, axis4]
    grind
  | _ :: _ :: _ :: _ :: _ :: r, _, h => exact absurd h (by simp)
theorem div_lit (a b : Int) (h : (b : Rat) ≠ 0) : Rat.divInt a b * b = a := by
  rw [Rat.divInt_eq_div]
  grind
theorem raise_law {ps : List Pt} (h2 : 2 ≤ ps.length) (h3 : ps.length ≤ 3) (t : Rat) : lawAt (raisedP ps) t = lawAt ps t := by
  refine law_ext fun i => ?_
  match ps, h2, h3 with
  | [a, b], _, _ =>
    show axisR [a, mixP b a (Rat.divInt 1 2), b] t i = _
    rw [axis3, axis2, ax_mix]
    have := div_lit 1 2 (by decide)
    generalize Rat.divInt 1 2 = q at this
    grind
  | [a, b, c], _, _ =>
    show axisR [a, mixP b a (Rat.divInt 1 3), mixP c b (Rat.divInt 2 3), c] t i = _
    rw [axis4, axis3, ax_mix, ax_mix]
    have h1 := div_lit 1 3 (by decide)
    have h2 := div_lit 2 3 (by decide)
    generalize Rat.divInt 1 3 = q at h1
    generalize Rat.divInt 2 3 = r at h2
    grind
  | _ :: _ :: _ :: _ :: r, _, h => exact absurd h (by simp)
theorem cubic_law : ∀ (n : Nat) {ps : List Pt}, 2 ≤ ps.length → ps.length + n ≤ 4 → ∀ t, lawAt (cubicP n ps) t = lawAt ps t
  | 0, _, _, _, _ => rfl
  | n + 1, ps, h2, h4, t => by
    have hl := raisedP_len (ps := ps) (Nat.le_of_succ_le h2)
    show lawAt (cubicP n (raisedP ps)) t = _
    rw [cubic_law n (by omega) (by omega), raise_law h2 (by omega)]
theorem cubic_len : ∀ (n : Nat) {ps : List Pt}, 1 ≤ ps.length → (cubicP n ps).length = ps.length + n
  | 0, _, _ => rfl
  | n + 1, ps, h => by
    show (cubicP n (raisedP ps)).length = _
    rw [cubic_len n (by rw [raisedP_len h]; omega), raisedP_len h]
    omega
theorem partQ_val {t u : Rat} (h : 0 < u.num) : partQ t u * u = t := by
  have hu : u ≠ 0 := fun e => by
    subst e
    exact absurd h (by decide)
  have h1 := den_ne t
  have h2 := den_ne u
  have : partQ t u = t / u := by
    refine divI _ _ _ ?_ ?_
    · rw [Rat.intCast_mul, num_rat u]
      grind
    · rw [Rat.intCast_mul, Rat.intCast_mul, num_rat t, num_rat u]
      grind
  rw [this]
  grind
/-- what a curve's part owes -/
structure PartOk (ps : List Pt) (t u s : Rat) : Prop where
  b1 : hd2 (splitR (partQ t u) (splitL u ps)) = lawAt ps t
  b2 : la2 (splitR (partQ t u) (splitL u ps)) = lawAt ps u
  b3 : (splitR (partQ t u) (splitL u ps)).length = ps.length
  b4 : lawAt (splitR (partQ t u) (splitL u ps)) s = lawAt ps (betweenR t u s)
theorem part_ok {ps : List Pt} (h2 : 2 ≤ ps.length) (h4 : ps.length ≤ 4) {t u : Rat} (s : Rat) (hu : 0 < u.num) : PartOk ps t u s := by
  have hl := splitL_len (t := u) (Nat.le_of_succ_le h2)
  have k1 := split_ok h2 h4 u (partQ t u)
  have k3 := split_ok h2 h4 u (betweenR (partQ t u) 1 s)
  have k2 := split_ok (ps := splitL u ps) (by omega) (by omega) (partQ t u) s
  have hq := partQ_val (t := t) hu
  refine ⟨?_, ?_, ?_, ?_⟩
  · rw [k2.a4, k1.a5, bet_val]
    congr 1
    grind
  · rw [k2.a2, k1.a3, k1.a4]
  · rw [splitR_len (by omega), hl]
  · rw [k2.a6, k3.a5]
    congr 1
    rw [bet_val, bet_val, bet_val]
    grind

end Mine

end
section
set_option linter.unusedVariables false
open PySem PySem.W PyProof.Rows PySem.Calls
set_option Elab.async false
set_option maxRecDepth 100000
set_option maxHeartbeats 1000000
namespace Mine
section
variable {W : Wx} {room : Nat} {sc : Scope} {cl : List (Str × Addr)} {C : Cx W room sc cl} {en : Env} {l : Bnd} {news base : Led}
/-- f(made, had) -/
theorem ev_callEV {fe e1 e2 : PySem.Expr} {p : Pos} {a : Addr} {cost : Nat} {y : Value} {P post : Value → Led → Prop} (hk : keepIn (hd.heap_39 W.w.params) (.ref a) = true) (hfe : EvV C en l news fe (.ref a)) (h1 : Ev C en l news e1 P) (h2 : ∀ n, EvV C en l n e2 y) (hc : ∀ x n, P x n → Con W.w W.mean W.mg W.mb cost a n [x, y] post) (hr : cost ≤ room)
    (he1 : starEach [e1, e2] en = (false, eval e1 en) :: starEach [e2] en) (he2 : starEach [e2] en = (false, eval e2 en) :: starEach [] en) (hplain : ∀ pos, (backTo pos (starEach [e2] en)).any (·.1) = false)
    (hst : eval (.Call fe [e1, e2] [] p) en = (do callWith p (← eval fe en) [] (backTo p (starEach [e1, e2] en)) (backToKw p (keywordEach [] en)))) : Ev C en l news (.Call fe [e1, e2] [] p) post :=
  ev_call (P := fun us n => ∃ x, us = [x, y] ∧ P x n) hfe hk (evs_cons h1 (fun v n hp => (evsV_cons (h2 n) evsV_nil he2).mono fun us n' ⟨e1, e2⟩ => by subst e1; subst e2; exact ⟨v, rfl, hp⟩) he1) (fun us n ⟨x, e, hp⟩ => by subst e; exact hc x n hp) hr he1 hplain hst
theorem gr_up {tl : Led} {P P' : Led → Value → Prop} {r : Value} {n : Led} (ab : Abv base tl) (h : Gr (tl ++ base) P r n) (k : ∀ tl2, P tl2 r → P' (tl2 ++ tl) r) : Gr base P' r n := by
  obtain ⟨tl2, rfl, ab2, hp⟩ := h
  exact ⟨tl2 ++ tl, (List.append_assoc _ _ _).symm, ab.app ab2, k tl2 hp⟩
theorem mem_asc {tl2 tl : Led} : ∀ p ∈ tl2 ++ (tl ++ base), p ∈ (tl2 ++ tl) ++ base := fun p hp => by rw [List.append_assoc]; exact hp
/-- _law_at(made, t) -/
theorem ev_lawAtC {e1 e2 : PySem.Expr} {o p : Pos} {vt : Value} {ps : List Pt} {t : Rat} {m k : Nat} (hroom : 122 ≤ room) (hf : EvV C en l base (.Name (Str.ofString "_law_at") o) (.ref 216)) (h1 : Ev C en l base e1 (Gr base fun tl r => CvIn (tl ++ base) m r ps)) (h2 : ∀ n, EvV C en l n e2 vt) (ht : FrIn base vt k t) (hl1 : 1 ≤ ps.length) (hl4 : ps.length ≤ 4) (hm1 : 1 ≤ m) (hb : 1 + ps.length * (termB m k + 1) + termB m k ≤ 67108864)
    (he1 : starEach [e1, e2] en = (false, eval e1 en) :: starEach [e2] en) (he2 : starEach [e2] en = (false, eval e2 en) :: starEach [] en) (hplain : ∀ pos, (backTo pos (starEach [e2] en)).any (·.1) = false)
    (hst : eval (.Call (.Name (Str.ofString "_law_at") o) [e1, e2] [] p) en = (do callWith p (← eval (.Name (Str.ofString "_law_at") o) en) [] (backTo p (starEach [e1, e2] en)) (backToKw p (keywordEach [] en)))) :
    Ev C en l base (.Call (.Name (Str.ofString "_law_at") o) [e1, e2] [] p) (Gr base fun tl r => PtIn (tl ++ base) (1 + ps.length * (termB m k + 1)) r (lawAt ps t)) :=
  ev_callEV (fn_law_at W).2 hf h1 h2 (fun x n ⟨tl, e, ab, hx⟩ => by
    subst e
    exact (law_at_con W _ _ _ _ _ _ _ hx (ht.mono fun p hp => mem_app hp) hl1 hl4 hm1 hb).mono fun r n h => gr_up ab h fun tl2 hr => hr.mono mem_asc) hroom he1 he2 hplain hst
/-- two points made, one after the other -/
theorem tst_two {a b : PySem.Expr} {op : CmpOp} {p : Pos} {c : Bool} {m1 m2 : Nat} {q1 q2 : Pt} (h8 : 8 ≤ room) (ha : Ev C en l base a (Gr base fun tl r => PtIn (tl ++ base) m1 r q1)) (hb : ∀ n, (∀ p ∈ base, p ∈ n) → Ev C en l n b (Gr n fun tl r => PtIn (tl ++ n) m2 r q2)) (hq : q1 = q2) (hop : cmpSame op = some c) (hm : behindInMarks op b = false) : Tst C en l base (.Compare a [op] [b] p) (fun c' n => c' = c ∧ ∀ p ∈ base, p ∈ n) :=
  tst_pt h8 ha (fun v n ⟨tl, e, ab, hv⟩ => by
    subst e
    exact (hb _ fun p hp => mem_app hp).mono fun w n' ⟨tl2, e, ab2, hw⟩ => by
      subst e; subst hq
      exact ⟨⟨m1, m2, q1, hv.mono fun p hp => mem_app hp, hw⟩, fun p hp => mem_app (mem_app hp)⟩) hop hm
theorem ev_two {a b : PySem.Expr} {op : CmpOp} {p : Pos} {c : Bool} {m1 m2 : Nat} {q1 q2 : Pt} (h8 : 8 ≤ room) (ha : Ev C en l base a (Gr base fun tl r => PtIn (tl ++ base) m1 r q1)) (hb : ∀ n, (∀ p ∈ base, p ∈ n) → Ev C en l n b (Gr n fun tl r => PtIn (tl ++ n) m2 r q2)) (hq : q1 = q2) (hop : cmpSame op = some c) (hm : behindInMarks op b = false) : Ev C en l base (.Compare a [op] [b] p) (fun r n => r = .bool c ∧ ∀ p ∈ base, p ∈ n) :=
  ev_pt h8 ha (fun v n ⟨tl, e, ab, hv⟩ => by
    subst e
    exact (hb _ fun p hp => mem_app hp).mono fun w n' ⟨tl2, e, ab2, hw⟩ => by
      subst e; subst hq
      exact ⟨⟨m1, m2, q1, hv.mono fun p hp => mem_app hp, hw⟩, fun p hp => mem_app (mem_app hp)⟩) hop hm
/-- a point had, a point made -/
theorem tst_had {a b : PySem.Expr} {op : CmpOp} {p : Pos} {c : Bool} {m1 m2 : Nat} {q1 q2 : Pt} (h8 : 8 ≤ room) (ha : Ev C en l base a (fun w n => n = base ∧ PtIn base m1 w q1)) (hb : Ev C en l base b (Gr base fun tl r => PtIn (tl ++ base) m2 r q2)) (hq : q1 = q2) (hop : cmpSame op = some c) (hm : behindInMarks op b = false) : Tst C en l base (.Compare a [op] [b] p) (fun c' n => c' = c ∧ ∀ p ∈ base, p ∈ n) :=
  tst_pt h8 ha (fun v n ⟨e, hv⟩ => by
    subst e
    exact hb.mono fun w n' ⟨tl2, e, ab2, hw⟩ => by
      subst e; subst hq
      exact ⟨⟨m1, m2, q1, hv.mono fun p hp => mem_app hp, hw⟩, fun p hp => mem_app hp⟩) hop hm
theorem ev_lenC {e : PySem.Expr} {p o : Pos} {m k : Nat} {qs : List Pt} (hf : EvV C en l base (.Name (Str.ofString "len") o) (.builtin "len")) (ha : Ev C en l base e (Gr base fun tl r => CvIn (tl ++ base) m r qs)) (hk : qs.length = k) (hz : k ≤ 16384)
    (he : starEach [e] en = (false, eval e en) :: starEach [] en)
    (hst : eval (.Call (.Name (Str.ofString "len") o) [e] [] p) en = (do callWith p (← eval (.Name (Str.ofString "len") o) en) [] (backTo p (starEach [e] en)) (backToKw p (keywordEach [] en)))) : Ev C en l base (.Call (.Name (Str.ofString "len") o) [e] [] p) (fun r n => (∃ t, r = .int k t) ∧ ∀ p ∈ base, p ∈ n) :=
  (ev_len (k := k) hf ha (fun v n ⟨tl, e, ab, hv⟩ => by
    subst e
    obtain ⟨r, vs, c, e, hm, hl, _⟩ := hv.at
    exact ⟨r, vs, e, seqT hm, hl.trans hk⟩) hz he hst).mono fun r n ⟨e1, v, tl, e, _, _⟩ => by
    subst e
    exact ⟨e1, fun p hp => mem_app hp⟩
end

end Mine

end
section
set_option linter.unusedVariables false
open PySem PySem.W PyProof.Rows PySem.Calls
set_option Elab.async false
set_option maxRecDepth 100000
set_option maxHeartbeats 1000000
namespace Mine
noncomputable def codeOf {q : Program} {loose : List Str} {XP : (Str → Option Value) → Heap → Prop} {YP : World → Heap → Prop} {r : RowW} {d : DefRec} {kwd : List (Str × PySem.Expr)} {run : Value → List Value → Sem Value} {H : Prop} (_ : WalkO q loose XP YP r d kwd run → H) : DefRec := d
noncomputable def lawD : DefRec := codeOf hd
/-- the rest of law, behind the draws -/
def LawT (d : DefRec) : Prop := ∀ (W : Wx) (L' : Addr) (C : Cx W 126 d.scope (cellsFrom (L' + 1) d.scope.names [])) (l : Bnd) (sa : Addr) (oc so : Obj) (M : Led) (vc vt vs : Value) (ps : List Pt) (t s : Rat) (way : Int) (tw : Tok),
  look l (Str.ofString "curve") = some vc → look l (Str.ofString "t") = some vt → look l (Str.ofString "share") = some vs → look l (Str.ofString "way") = some (.int way tw) → CvIn M 4 vc ps → FrIn M vt 5 t → FrIn M vs 5 s → 2 ≤ ps.length → ps.length ≤ 4 → SrcO so → (∀ p ∈ M, p.1 ≠ sa) → (L' + 1, oc) ∈ M → oc.data = .cell (some (.ref sa)) →
  Ex C C.env l ((sa, so) :: M) (d.body.drop 4) (fun v _ => v = .bool true) (fun _ _ => False)
theorem law_t : LawT lawD := by
  unfold LawT lawD codeOf
  dsimp only [List.drop]
  intro W L' C l sa oc so M vc vt vs ps t s way tw kc kt ks kw hc ht hs h2 h4 hso hM hcm hoc
  have h1 : 1 ≤ ps.length := Nat.le_of_succ_le h2
  refine ex_ifT (P := fun _ n => n = (sa, so) :: M) (Tst.mono (tst_int (c := way == 0) (evI_of (ev_local kw rfl rfl)) evI_const rfl rfl) fun c n h => h.2) ?w0 ?r0
  case w0 =>
    rintro n rfl
    refine Ex.sub (news' := M) ?_ (fun p hp => .tail _ hp)
    refine ex_ret (ev_and2 (P := fun n => ∀ p ∈ M, p ∈ n) ?x ?y)
    case x => exact ev_two (by decide) (ev_callVV (fn_at W).2 (ev_fn (fn_at W).1 rfl rfl) (ev_local kc rfl rfl) (ev_local kt rfl rfl) (at_con W _ _ _ _ _ 4 5 hc ht h1 h4 (by decide)) (by decide)) (fun n hn => ev_lawAt (by decide) (ev_fn (fn_law_at W).1 rfl rfl) (ev_local kc rfl rfl) (ev_local kt rfl rfl) (hc.mono hn) (ht.mono hn) h1 h4 (by decide) (lim4 h4 (by decide)) rfl rfl (fun _ => rfl) rfl) (at_law h1 h4 t) rfl rfl
    case y =>
      intro n hn
      refine Ev.sub (news' := M) ?_ hn
      have hlr : (rateP ps).length = ps.length - 1 := by unfold rateP; rw [List.length_map, List.length_range]
      have hld : (derP ps).length = ps.length - 1 := by rw [der_rate]; exact hlr
      refine (ev_two (m1 := bnd 5 3 (derB 4)) (m2 := 1 + (ps.length - 1) * (termB (rateB 4) 5 + 1)) (q1 := atP t (derP ps)) (q2 := lawAt (rateP ps) t) (by decide) ?y1 ?y2 ?y3 rfl rfl).mono fun r n h => h.1
      case y3 => rw [der_rate, at_law (by omega) (by omega)]
      case y2 => exact fun n hn => ev_callVV (fn_law_rate W).2 (ev_fn (fn_law_rate W).1 rfl rfl) (ev_local kc rfl rfl) (ev_local kt rfl rfl) (rate_con W _ _ _ ps t 4 5 (hc.mono hn) (ht.mono hn) h2 h4 (by decide) (by decide) (lim4 (by omega) (by decide))) (by decide)
      case y1 =>
        refine ev_callEV (cost := 124) (P := Gr M fun tl r => CvIn (tl ++ M) (derB 4) r (derP ps)) (fn_at W).2 (ev_fn (fn_at W).1 rfl rfl) (ev_callV (ev_fn (fn_derivative W).1 rfl rfl) (fn_derivative W).2 (evsV_cons (ev_local kc rfl rfl) evsV_nil) (derivative_con W _ _ _ 4 hc h2 h4 (by decide)) (by decide)) (fun n => ev_local kt rfl rfl) ?_ (by decide) rfl rfl (fun _ => rfl) rfl
        rintro x n ⟨tl, rfl, ab, hx⟩
        exact (at_con W _ _ _ _ _ (derB 4) 5 hx (ht.mono fun p hp => mem_app hp) (by omega) (by omega) (by decide)).mono fun r n h => gr_up ab h fun tl2 hr => hr.mono mem_asc
  case r0 =>
    rintro n rfl
    refine ex_nil ?_
    refine ex_ifT (P := fun _ n => n = (sa, so) :: M) (Tst.mono (tst_int (c := way == 1) (evI_of (ev_local kw rfl rfl)) evI_const rfl rfl) fun c n h => h.2) ?w1 ?r1
    case w1 =>
      rintro n rfl
      refine Ex.sub (news' := M) ?_ (fun p hp => .tail _ hp)
      exact ex_ret (ev_callV (ev_fn (fn_law_split_right W).1 rfl rfl) (fn_law_split_right W).2 (evsV_cons (ev_local kc rfl rfl) (evsV_cons (ev_local kt rfl rfl) (evsV_cons (ev_local ks rfl rfl) evsV_nil))) (split_right_con W M vc vt vs ps t s hc ht hs h1 h4 (split_ok h2 h4 t s)) (by decide))
    case r1 =>
      rintro n rfl
      refine ex_nil ?_
      refine ex_ifT (P := fun _ n => n = (sa, so) :: M) (Tst.mono (tst_int (c := way == 2) (evI_of (ev_local kw rfl rfl)) evI_const rfl rfl) fun c n h => h.2) ?w2 ?r2
      case w2 =>
        rintro n rfl
        refine ex_set2s (P := fun v n => Som7 fun D o2 tl vl vh ql qh => Amd5 (v = .ref D) (n = (D, tupO #[vl, vh] 0) :: (sa, (o2 : Obj)) :: (tl ++ M)) (FrIn (tl ++ M) vl 5 ql) (FrIn (tl ++ M) vh 5 qh) (0 < qh.num)) ?e ?hx ?hy ?hs1 ?hs2 ?k
        case hx => exact rfl
        case hy => exact rfl
        case hs1 => exact rfl
        case hs2 => exact rfl
        case e =>
          refine ev_tuple (P := fun us n => Som6 fun o2 tl vl vh ql qh => Amd5 (us = [vl, vh]) (n = (sa, (o2 : Obj)) :: (tl ++ M)) (FrIn (tl ++ M) vl 5 ql) (FrIn (tl ++ M) vh 5 qh) (0 < qh.num)) (evs_cons (ev_oneK (m := 5) (P := fun _ => True) (bs := [(), (), ()]) (by decide) (fun n => ev_fn (fn_law_one W).1 rfl rfl) (ev_cell (c := L' + 1) rfl (.tail _ hcm) hoc rfl rfl) ?q1 (by decide) (by decide) hso hM ?q2 ?q3 ?q4 ?q5) ?q6) ?q7
          case q2 => exact rfl
          case q3 => exact rfl
          case q4 => exact fun _ => rfl
          case q5 => exact rfl
          case q1 =>
            refine evsg_rel ?mw0 ?hw0 ?nw0 ?sw0
            case sw0 => exact rfl
            case mw0 => exact frAny_mono
            case hw0 => exact ev_kfr (P := fun _ => True) (m := 5) (a := 0) (b := 1) (fun _ => evI_const) (fun _ => evI_const) (kfr_ok rfl) True.intro rfl rfl
            refine evsg_rel ?mw1 ?hw1 ?nw1 ?sw1
            case sw1 => exact rfl
            case mw1 => exact frAny_mono
            case hw1 => exact ev_kfr (P := fun _ => True) (m := 5) (a := 1) (b := 4) (fun _ => evI_const) (fun _ => evI_const) (kfr_ok rfl) True.intro rfl rfl
            refine evsg_rel ?mw2 ?hw2 ?nw2 ?sw2
            case sw2 => exact rfl
            case mw2 => exact frAny_mono
            case hw2 => exact ev_kfr (P := fun _ => True) (m := 5) (a := 1) (b := 3) (fun _ => evI_const) (fun _ => evI_const) (kfr_ok rfl) True.intro rfl rfl
            exact evsg_rel0
          case q7 =>
            rintro us n D ⟨o2, tl, vl, vh, ql, qh, rfl, rfl, f1, f2, h0⟩ hD
            exact ⟨Nat.le_of_ble_eq_true rfl, D, o2, tl, vl, vh, ql, qh, rfl, rfl, f1, f2, h0⟩
          case q6 =>
            rintro v n ⟨o1, tl, ho1, rfl, ab, ql, fl, _⟩
            have hM1 : ∀ p ∈ tl ++ M, p.1 ≠ sa := fun p hp => by
              rcases List.mem_append.mp hp with hp | hp
              · exact Nat.ne_of_gt (ab p hp _ (.head _))
              · exact hM p hp
            refine evs_cons (ev_oneK (m := 5) (P := fun q => 0 < q.num) (bs := [(), (), ()]) (by decide) (fun n => ev_fn (fn_law_one W).1 rfl rfl) (ev_cell (c := L' + 1) rfl (.tail _ (mem_app hcm)) hoc rfl rfl) ?q1 (by decide) (by decide) ho1 hM1 ?q2 ?q3 ?q4 ?q5) ?q6
            case q2 => exact rfl
            case q3 => exact rfl
            case q4 => exact fun _ => rfl
            case q5 => exact rfl
            case q1 =>
              refine evsg_rel ?mx0 ?hx0 ?nx0 ?sx0
              case sx0 => exact rfl
              case mx0 => exact frAny_mono
              case hx0 => exact ev_kfr (P := fun q => 0 < q.num) (m := 5) (a := 1) (b := 2) (fun _ => evI_const) (fun _ => evI_const) (kfr_ok rfl) (by decide) rfl rfl
              refine evsg_rel ?mx1 ?hx1 ?nx1 ?sx1
              case sx1 => exact rfl
              case mx1 => exact frAny_mono
              case hx1 => exact ev_kfr (P := fun q => 0 < q.num) (m := 5) (a := 1) (b := 1) (fun _ => evI_const) (fun _ => evI_const) (kfr_ok rfl) (by decide) rfl rfl
              refine evsg_rel ?mx2 ?hx2 ?nx2 ?sx2
              case sx2 => exact rfl
              case mx2 => exact frAny_mono
              case hx2 => exact ev_kfr (P := fun q => 0 < q.num) (m := 5) (a := 3) (b := 5) (fun _ => evI_const) (fun _ => evI_const) (kfr_ok rfl) (by decide) rfl rfl
              exact evsg_rel0
            case q6 =>
              rintro v2 n ⟨o2, tl2, ho2, rfl, ab2, qh, fh, h0⟩
              refine evs_nil.mono ?_
              rintro us n ⟨rfl, rfl⟩
              exact ⟨o2, tl2 ++ tl, v, v2, ql, qh, rfl, by rw [List.append_assoc], fl.mono fun p hp => mem_l (mem_app hp), fh.mono fun p hp => mem_l (mem_l hp), h0⟩
        case k =>
          rintro v n ⟨D, o2, tl, vl, vh, ql, qh, rfl, rfl, fl, fh, h0⟩
          refine ⟨D, 0, vl, vh, rfl, .head _, Ex.sub (news' := tl ++ M) ?_ (fun p hp => .tail _ (.tail _ hp))⟩
          have hc2 : CvIn (tl ++ M) 4 vc ps := hc.mono fun p hp => mem_app hp
          have hs2 : FrIn (tl ++ M) vs 5 s := hs.mono fun p hp => mem_app hp
          generalize tl ++ M = M2 at fl fh hc2 hs2
          have kc2 := (look_tail (l := (Str.ofString "high", vh) :: l) (x := Str.ofString "low") (v := vl) rfl).trans ((look_tail rfl).trans kc)
          have ks2 := (look_tail (l := (Str.ofString "high", vh) :: l) (x := Str.ofString "low") (v := vl) rfl).trans ((look_tail rfl).trans ks)
          refine ex_set (P := Gr M2 fun tl r => CvIn (tl ++ M2) (bnd (5 + 5) 3 (bnd 5 3 4)) r (splitR (partQ ql qh) (splitL qh ps))) ?e ?hx ?hs1 ?k
          case hx => exact rfl
          case hs1 => exact rfl
          case e => exact ev_callV (ev_fn (fn_part W).1 rfl rfl) (fn_part W).2 (evsV_cons (ev_local kc2 rfl rfl) (evsV_cons (ev_local look_head rfl rfl) (evsV_cons (ev_local ((look_tail rfl).trans look_head) rfl rfl) evsV_nil))) (part_con W _ _ _ _ _ _ _ 4 5 hc2 fl fh h0 h1 h4 (by decide) (by decide) (by decide)) (by decide)
          case k =>
            rintro vT n ⟨tl2, rfl, ab2, hT⟩
            obtain ⟨b1, b2, b3, b4⟩ := part_ok h2 h4 (t := ql) (u := qh) s h0
            generalize splitR (partQ ql qh) (splitL qh ps) = ts at hT b1 b2 b3 b4
            have hT1 : 1 ≤ ts.length := by rw [b3]; exact h1
            have hT4 : ts.length ≤ 4 := by rw [b3]; exact h4
            have hTn := ne_nil_of hT1
            have hc3 : CvIn (tl2 ++ M2) 4 vc ps := hc2.mono fun p hp => mem_app hp
            have hs3 : FrIn (tl2 ++ M2) vs 5 s := hs2.mono fun p hp => mem_app hp
            have fl3 : FrIn (tl2 ++ M2) vl 5 ql := fl.mono fun p hp => mem_app hp
            have fh3 : FrIn (tl2 ++ M2) vh 5 qh := fh.mono fun p hp => mem_app hp
            generalize tl2 ++ M2 = M3 at hT hc3 hs3 fl3 fh3
            have kcT := (look_tail (l := (Str.ofString "low", vl) :: (Str.ofString "high", vh) :: l) (x := Str.ofString "told") (v := vT) rfl).trans kc2
            have ksT := (look_tail (l := (Str.ofString "low", vl) :: (Str.ofString "high", vh) :: l) (x := Str.ofString "told") (v := vT) rfl).trans ks2
            have klT : look ((Str.ofString "told", vT) :: (Str.ofString "low", vl) :: (Str.ofString "high", vh) :: l) (Str.ofString "low") = some vl := (look_tail rfl).trans look_head
            have khT : look ((Str.ofString "told", vT) :: (Str.ofString "low", vl) :: (Str.ofString "high", vh) :: l) (Str.ofString "high") = some vh := (look_tail rfl).trans ((look_tail rfl).trans look_head)
            have kTT : look ((Str.ofString "told", vT) :: (Str.ofString "low", vl) :: (Str.ofString "high", vh) :: l) (Str.ofString "told") = some vT := look_head
            generalize (Str.ofString "told", vT) :: (Str.ofString "low", vl) :: (Str.ofString "high", vh) :: l = l3 at kcT ksT klT khT kTT
            refine ex_ifF (P := fun n => ∀ p ∈ M3, p ∈ n) ?t1 ?r1
            case t1 =>
              refine tst_or (Px := fun c n => c = false ∧ ∀ p ∈ M3, p ∈ n) (tst_had (by decide) (ev_hd (ev_local kTT rfl rfl) hT hTn) (ev_lawAt (by decide) (ev_fn (fn_law_at W).1 rfl rfl) (ev_local kcT rfl rfl) (ev_local klT rfl rfl) (hc3) (fl3) h1 h4 (by decide) (lim4 h4 (by decide)) rfl rfl (fun _ => rfl) rfl) b1 rfl rfl) ?_ (fun n h => nomatch h.1)
              rintro n ⟨_, hn⟩
              refine tst_or (Px := fun c n => c = false ∧ ∀ p ∈ M3, p ∈ n) ((tst_had (by decide) (ev_la (ev_local kTT rfl rfl) (hT.mono hn) hTn) (ev_lawAt (by decide) (ev_fn (fn_law_at W).1 rfl rfl) (ev_local kcT rfl rfl) (ev_local khT rfl rfl) (hc3.mono hn) (fh3.mono hn) h1 h4 (by decide) (lim4 h4 (by decide)) rfl rfl (fun _ => rfl) rfl) b2 rfl rfl).mono fun c n' h => ⟨h.1, fun p hp => h.2 p (hn p hp)⟩) ?_ (fun n h => nomatch h.1)
              rintro n2 ⟨_, hn2⟩
              have hbne : cmpI .NotEq (ps.length : Int) (ps.length : Int) = some false := congrArg some (bne_self_eq_false _)
              obtain ⟨rc, cs, cc, rfl, hm, hl, _⟩ := hc3.at
              obtain ⟨rT, cT, c2, rfl, hmT, hlT, _⟩ := hT.at
              refine tst_or (Px := fun c n => c = false ∧ ∀ p ∈ M3, p ∈ n) ((tst_int (x := (ps.length : Int)) (y := (ps.length : Int)) (c := false) (ev_lenV (ev_ty (bi_len W)) (ev_local kTT rfl rfl) (seqT (hn2 _ hmT)) (hlT.trans b3) (Nat.le_trans h4 (by decide))) (ev_lenV (ev_ty (bi_len W)) (ev_local kcT rfl rfl) (seqT (hn2 _ hm)) hl (Nat.le_trans h4 (by decide))) hbne rfl).mono fun c n h => ⟨h.1, h.2 ▸ hn2⟩) (fun n h => tst_or0 h) (fun n h => nomatch h.1)
            case r1 =>
              intro n hn
              refine Ex.sub (news' := M3) ?_ hn
              refine ex_ret ((ev_two (by decide) (ev_lawAt (by decide) (ev_fn (fn_law_at W).1 rfl rfl) (ev_local kTT rfl rfl) (ev_local ksT rfl rfl) (hT) (hs3) hT1 hT4 (by decide) (lim4 hT4 (by decide)) rfl rfl (fun _ => rfl) rfl) (m2 := 1 + ps.length * (termB 4 (betB 5) + 1)) ?_ b4 rfl rfl).mono fun r n h => h.1)
              intro n hn
              refine ev_lawAtE (k := betB 5) (t := betweenR ql qh s) (by decide) (ev_fn (fn_law_at W).1 rfl rfl) (ev_local kcT rfl rfl) ?_ (hc3.mono hn) h1 h4 (by decide) (lim4 h4 (by decide)) rfl rfl (fun _ => rfl) rfl
              refine ev_bet (by decide) (ev_fn (fn_law_between W).1 rfl rfl) ((evsV_cons (ev_local klT rfl rfl) (evsV_cons (ev_local khT rfl rfl) (evsV_cons (ev_local ksT rfl rfl) evsV_nil))).mono ?_) rfl (fun _ => rfl) rfl
              rintro us n' ⟨rfl, rfl⟩
              exact ⟨[], rfl, Abv.nil, vl, vh, vs, rfl, fl3.mono hn, fh3.mono hn, hs3.mono hn⟩
      case r2 =>
        rintro n rfl
        refine ex_nil (Ex.sub (news' := M) ?_ (fun p hp => .tail _ hp))
        obtain ⟨rc, cs, cc, rfl, hm, hl, _⟩ := hc.at
        have hcl : (cubicP (4 - ps.length) ps).length = 4 := by rw [cubic_len _ h1]; omega
        have hlen : ∀ n, (∀ p ∈ M, p ∈ n) → ∀ {o p1 p2 : Pos}, EvI C C.env l n (.Call (.Name (Str.ofString "len") o) [.Name (Str.ofString "curve") p1] [] p2) (ps.length : Int) := fun n hn => ev_lenV (ev_ty (bi_len W)) (ev_local kc rfl rfl) (seqT (hn _ hm)) hl (Nat.le_trans h4 (by decide))
        have hbc : rbnd (4 - ps.length) 4 ≤ 10000 := by
          have : ps.length = 2 ∨ ps.length = 3 ∨ ps.length = 4 := by omega
          rcases this with e | e | e <;> rw [e] <;> decide
        have hbc1 : 1 ≤ rbnd (4 - ps.length) 4 := Nat.le_trans (by decide) (rbnd_le _ 4)
        have hbt : termB (rbnd (4 - ps.length) 4) 5 ≤ 10000000 := by unfold termB; omega
        have hcub : ∀ n, (∀ p ∈ M, p ∈ n) → ∀ {o p1 p2 : Pos}, Ev C C.env l n (.Call (.Name (Str.ofString "as_cubic") o) [.Name (Str.ofString "curve") p1] [] p2) (Gr n fun tl r => CvIn (tl ++ n) (rbnd (4 - ps.length) 4) r (cubicP (4 - ps.length) ps)) := fun n hn => ev_callV (ev_fn (fn_as_cubic W).1 rfl rfl) (fn_as_cubic W).2 (evsV_cons (ev_local kc rfl rfl) evsV_nil) (as_cubic_con W _ _ _ 4 (hc.mono hn) h2 h4 (Nat.le_trans hbc (by decide))) (by decide)
        have hrai : ps.length ≤ 3 → ∀ n, (∀ p ∈ M, p ∈ n) → ∀ {o p1 p2 : Pos}, Ev C C.env l n (.Call (.Name (Str.ofString "raised") o) [.Name (Str.ofString "curve") p1] [] p2) (Gr n fun tl r => CvIn (tl ++ n) (mixB 4 2) r (raisedP ps)) := fun h3 n hn => ev_callV (ev_fn (fn_raised W).1 rfl rfl) (fn_raised W).2 (evsV_cons (ev_local kc rfl rfl) evsV_nil) (raised_con W _ _ _ 4 (hc.mono hn) h2 h3 (by decide)) (by decide)
        have h3of : ∀ {c : Bool}, c = decide ((ps.length : Int) < 4) → c = true → ps.length ≤ 3 := fun e1 e2 => by
          have := of_decide_eq_true (e1.symm.trans e2)
          omega
        refine ex_ifF (P := fun n => ∀ p ∈ M, p ∈ n) ?t1 ?r1
        case t1 =>
          refine tst_or (Px := fun c n => c = false ∧ ∀ p ∈ M, p ∈ n) (tst_intP (Pa := fun n => ∀ p ∈ M, p ∈ n) (ev_lenC (ev_ty (bi_len W)) (hcub M fun _ h => h) hcl (by decide) rfl rfl) (fun n hn => evI_const.mono fun r n' ⟨e1, e2⟩ => ⟨e1, e2 ▸ hn⟩) (by rfl) rfl) ?_ (fun n h => nomatch h.1)
          rintro n ⟨_, hn⟩
          refine tst_or (Px := fun c n => c = false ∧ ∀ p ∈ M, p ∈ n) ?_ (fun n h => tst_or0 h) (fun n h => nomatch h.1)
          refine tst_and (Px := fun c n => c = decide ((ps.length : Int) < 4) ∧ ∀ p ∈ M, p ∈ n) ((tst_int (hlen n hn) evI_const rfl rfl).mono fun c n' h => ⟨h.1, h.2 ▸ hn⟩) ?_ (fun n h => ⟨rfl, h.2⟩)
          rintro n2 ⟨hd, hn2⟩
          have h3 := h3of hd rfl
          have hrl := raisedP_len h1
          refine tst_and (Px := fun c n => c = false ∧ ∀ p ∈ M, p ∈ n) (tst_intP (x := ((ps.length + 1 : Nat) : Int)) (y := (ps.length : Int) + 1) (Pa := fun n => ∀ p ∈ M, p ∈ n) ((ev_lenC (ev_ty (bi_len W)) (hrai h3 n2 hn2) hrl (by omega) rfl rfl).mono fun r n' h => ⟨h.1, fun p hp => h.2 p (hn2 p hp)⟩) (fun n hn => (evI_add (hlen n hn) evI_const).mono fun r n' ⟨e1, e2⟩ => ⟨e1, e2 ▸ hn⟩) ?_ rfl) (fun n h => nomatch h.1) (fun n h => h)
          show some (((ps.length + 1 : Nat) : Int) != (ps.length : Int) + 1) = some false
          rw [Int.natCast_add]
          exact congrArg some (bne_self_eq_false _)
        case r1 =>
          intro n hn
          refine Ex.sub (news' := M) ?_ hn
          refine ex_ifF (P := fun n => ∀ p ∈ M, p ∈ n) ?t2 ?r2
          case t2 =>
            refine tst_or (Px := fun c n => c = false ∧ ∀ p ∈ M, p ∈ n) ?_ ?_ (fun n h => nomatch h.1)
            · refine tst_and (Px := fun c n => c = decide ((ps.length : Int) < 4) ∧ n = M) (tst_int (hlen M fun _ h => h) evI_const rfl rfl) ?_ (fun n h => ⟨rfl, fun p hp => h.2 ▸ hp⟩)
              rintro n2 ⟨hd, rfl⟩
              have h3 := h3of hd rfl
              have hrl := raisedP_len h1
              exact tst_and (tst_two (by decide) (ev_lawAtC (by decide) (ev_fn (fn_law_at W).1 rfl rfl) (hrai h3 n2 fun _ h => h) (fun n => ev_local kt rfl rfl) ht (by omega) (by omega) (by decide) (lim4 (by omega) (by decide)) rfl rfl (fun _ => rfl) rfl) (fun n hn => ev_lawAt (by decide) (ev_fn (fn_law_at W).1 rfl rfl) (ev_local kc rfl rfl) (ev_local kt rfl rfl) (hc.mono hn) (ht.mono hn) h1 h4 (by decide) (lim4 h4 (by decide)) rfl rfl (fun _ => rfl) rfl) (raise_law h2 h3 t) rfl rfl) (fun n h => nomatch h.1) (fun n h => h)
            · rintro n2 ⟨_, hn2⟩
              refine tst_or (Px := fun c n => c = false ∧ ∀ p ∈ M, p ∈ n) ((tst_two (by decide) (ev_lawAtC (by decide) (ev_fn (fn_law_at W).1 rfl rfl) (hcub n2 hn2) (fun n => ev_local kt rfl rfl) (ht.mono hn2) (by omega) (by omega) hbc1 (lim4 (by omega) hbt) rfl rfl (fun _ => rfl) rfl) (fun n hn => ev_lawAt (by decide) (ev_fn (fn_law_at W).1 rfl rfl) (ev_local kc rfl rfl) (ev_local kt rfl rfl) (hc.mono fun p hp => hn p (hn2 p hp)) (ht.mono fun p hp => hn p (hn2 p hp)) h1 h4 (by decide) (lim4 h4 (by decide)) rfl rfl (fun _ => rfl) rfl) (cubic_law _ h2 (by omega) t) rfl rfl).mono fun c n h => ⟨h.1, fun p hp => h.2 p (hn2 p hp)⟩) (fun n h => tst_or0 h) (fun n h => nomatch h.1)
          case r2 =>
            intro n hn
            refine Ex.sub (news' := M) ?_ hn
            refine ex_ret ((ev_two (by decide) (ev_lawAtC (by decide) (ev_fn (fn_law_at W).1 rfl rfl) (ev_callV (ev_fn (fn_reversed_curve W).1 rfl rfl) (fn_reversed_curve W).2 (evsV_cons (ev_local kc rfl rfl) evsV_nil) (reversed_con W _ _ _ 4 hc h4) (by decide)) (fun n => ev_local ks rfl rfl) hs (by rw [List.length_reverse]; exact h1) (by rw [List.length_reverse]; exact h4) (by decide) (lim4 (by rw [List.length_reverse]; exact h4) (by decide)) rfl rfl (fun _ => rfl) rfl) (m2 := 1 + ps.length * (termB 4 (betB 5) + 1)) ?_ (rev_law h2 h4 s) rfl rfl).mono fun r n h => h.1)
            intro n hn
            refine ev_lawAtE (k := betB 5) (t := betweenR 1 0 s) (by decide) (ev_fn (fn_law_at W).1 rfl rfl) (ev_local kc rfl rfl) ?_ (hc.mono hn) h1 h4 (by decide) (lim4 h4 (by decide)) rfl rfl (fun _ => rfl) rfl
            refine ev_bet (by decide) (ev_fn (fn_law_between W).1 rfl rfl) (evsg_cons (ev_kq (q := 1) (m := 5) evI_const evI_const ⟨by decide, by decide⟩ rfl rfl) ?_ rfl) rfl (fun _ => rfl) rfl
            intro tl3 w ab3 hw
            refine evsg_cons (ev_kq (q := 0) (m := 5) evI_const evI_const ⟨by decide, by decide⟩ rfl rfl) ?_ rfl
            intro tl4 w2 ab4 hw2
            refine (evsV_cons (ev_local ks rfl rfl) evsV_nil).mono ?_
            rintro us n' ⟨rfl, rfl⟩
            exact ⟨[], rfl, Abv.nil, w, w2, vs, rfl, hw.mono fun p hp => mem_l (mem_app hp), hw2.mono fun p hp => mem_l (mem_l hp), hs.mono fun p hp => mem_app (hn p hp)⟩

end Mine

end
section
set_option linter.unusedVariables false
open PySem PySem.W PyProof.Rows PySem.Calls
set_option Elab.async false
set_option maxRecDepth 100000
set_option maxHeartbeats 1000000
namespace Mine
/-- law, its frame made -/
def LawP (d : DefRec) : Prop := ∀ (W : Wx) (L' : Addr) (C : Cx W 126 d.scope (cellsFrom (L' + 1) d.scope.names [])) (r : Addr) (ob : Obj) (vs : List Value) (o1 : Obj),
  C.h₀.get? r = some ob → IsL ob vs → (∀ (i : Nat) (v : Value), vs[i]? = some v → Som2 fun x t => v = .int x t) → o1.data = .cell none →
  Ex C C.env [(Str.ofString "script", .ref r)] [(L' + 1, o1)] d.body (fun v _ => v = .bool true) (fun _ _ => False)
theorem law_p : LawP lawD := by
  have hT := law_t
  unfold LawT lawD codeOf at hT
  dsimp only [List.drop] at hT
  unfold LawP lawD codeOf
  dsimp only
  intro W L' C r ob vs o1 hb hL hI d1
  have take : ∀ {l : Bnd} {M : Led} {sa : Addr} {so oc : Obj} {top : Int} {p q q1 q2 : Pos} {kk : Tok}, 0 < top → top ≤ 1000 → SrcO so → (∀ p ∈ M, p.1 ≠ sa) → (L' + 1, oc) ∈ M → oc.data = .cell (some (.ref sa)) → Ev C C.env l ((sa, so) :: M) (.Call (.Name (Str.ofString "_law_take") q) [.Name (Str.ofString "source") q1, .Constant (.int top) kk q2] [] p) (fun v n => Som3 fun o' k t => Amd5 (v = .int k t) (0 ≤ k) (k < top) (SrcO o') (n = (sa, (o' : Obj)) :: M)) := fun {l M sa so oc top p q q1 q2 kk} h0 h1 hso hM hcm hoc => by
    refine ev_call (P := fun us n => ∃ t, us = [.ref sa, .int top t] ∧ n = (sa, so) :: M) (cost := 2) (ev_fn (fn_law_take W).1 rfl rfl) (fn_law_take W).2 (evs_cons (ev_cell (c := L' + 1) rfl (.tail _ hcm) hoc rfl rfl) ?_) ?_ (by decide)
    · rintro v n ⟨rfl, rfl⟩
      refine evs_cons evI_const ?_
      rintro v n ⟨⟨t, rfl⟩, rfl⟩
      refine evs_nil.mono ?_
      rintro us n ⟨rfl, rfl⟩
      exact ⟨t, rfl, rfl⟩
    · rintro us n ⟨t, rfl, rfl⟩
      exact take_con W sa so M top t h0 h1 hso hM
  refine ex_setC (cx := L' + 1) (ev_pool (by decide) hb hL hI (ev_fn (fn_law_pool W).1 rfl rfl) (ev_local rfl rfl rfl) rfl (fun _ => rfl) rfl) ?hx ?hcx ?hs ?k
  case hx => exact rfl
  case hcx => exact rfl
  case hs => exact rfl
  case k =>
    rintro v n ⟨sa, so, rfl, hso, rfl, hsa⟩
    have hne : sa ≠ L' + 1 := Nat.ne_of_gt (ktn_ltOf hsa (L' + 1, o1) (.head _))
    refine ⟨o1, none, [(sa, so)], .tail _ (.head _), d1, fun p hp => List.mem_singleton.mp hp ▸ .head _, fun p hp => List.mem_singleton.mp hp ▸ hne, fun oc hoc => ?_⟩
    refine Ex.sub (news' := [(sa, so), (L' + 1, oc)]) ?_ ?sub
    case sub =>
      intro p hp
      rcases List.mem_cons.mp hp with rfl | hp
      · exact .tail _ (.head _)
      · exact List.mem_singleton.mp hp ▸ .head _
    refine ex_set (P := Gr [(sa, so), (L' + 1, oc)] (LsIn (FrAny (fun _ => True) 5) [(), (), (), (), (), (), (), (), ()])) ?e ?hx ?hs ?k
    case hx => exact rfl
    case hs => exact rfl
    case e =>
      refine evg_list ?em ?ez ?ee
      case ez => exact Nat.le_of_ble_eq_true rfl
      case em => exact frAny_mono
      refine evsg_rel ?mv0 ?hv0 ?nv0 ?sv0 _
      case sv0 => exact rfl
      case mv0 => exact frAny_mono
      case hv0 => exact ev_kfr (P := fun _ => True) (m := 5) (a := 0) (b := 1) (fun _ => evI_const) (fun _ => evI_const) (kfr_ok rfl) True.intro rfl rfl
      refine evsg_rel ?mv1 ?hv1 ?nv1 ?sv1
      case sv1 => exact rfl
      case mv1 => exact frAny_mono
      case hv1 => exact ev_kfr (P := fun _ => True) (m := 5) (a := 1) (b := 1) (fun _ => evI_const) (fun _ => evI_const) (kfr_ok rfl) True.intro rfl rfl
      refine evsg_rel ?mv2 ?hv2 ?nv2 ?sv2
      case sv2 => exact rfl
      case mv2 => exact frAny_mono
      case hv2 => exact ev_kfr (P := fun _ => True) (m := 5) (a := 1) (b := 2) (fun _ => evI_const) (fun _ => evI_const) (kfr_ok rfl) True.intro rfl rfl
      refine evsg_rel ?mv3 ?hv3 ?nv3 ?sv3
      case sv3 => exact rfl
      case mv3 => exact frAny_mono
      case hv3 => exact ev_kfr (P := fun _ => True) (m := 5) (a := 1) (b := 3) (fun _ => evI_const) (fun _ => evI_const) (kfr_ok rfl) True.intro rfl rfl
      refine evsg_rel ?mv4 ?hv4 ?nv4 ?sv4
      case sv4 => exact rfl
      case mv4 => exact frAny_mono
      case hv4 => exact ev_kfr (P := fun _ => True) (m := 5) (a := 3) (b := 4) (fun _ => evI_const) (fun _ => evI_const) (kfr_ok rfl) True.intro rfl rfl
      refine evsg_rel ?mv5 ?hv5 ?nv5 ?sv5
      case sv5 => exact rfl
      case mv5 => exact frAny_mono
      case hv5 => exact ev_kfr (P := fun _ => True) (m := 5) (a := 2) (b := 5) (fun _ => evI_const) (fun _ => evI_const) (kfr_ok rfl) True.intro rfl rfl
      refine evsg_rel ?mv6 ?hv6 ?nv6 ?sv6
      case sv6 => exact rfl
      case mv6 => exact frAny_mono
      case hv6 => exact ev_kfr (P := fun _ => True) (m := 5) (a := 7) (b := 8) (fun _ => evI_const) (fun _ => evI_const) (kfr_ok rfl) True.intro rfl rfl
      refine evsg_rel ?mv7 ?hv7 ?nv7 ?sv7
      case sv7 => exact rfl
      case mv7 => exact frAny_mono
      case hv7 => exact ev_kfr (P := fun _ => True) (m := 5) (a := 3) (b := 2) (fun _ => evI_const) (fun _ => evI_const) (kfr_ok rfl) True.intro rfl rfl
      refine evsg_rel ?mv8 ?hv8 ?nv8 ?sv8
      case sv8 => exact rfl
      case mv8 => exact frAny_mono
      case hv8 => exact ev_kfr (P := fun _ => True) (m := 5) (a := -1) (b := 2) (fun _ => evI_neg evI_const) (fun _ => evI_const) (kfr_ok rfl) True.intro rfl rfl
      exact evsg_rel0
    case k =>
      rintro v n ⟨tlS, rfl, abS, S, ws, cS, rfl, hmS, hws⟩
      refine Ex.sub (news' := (sa, so) :: (tlS ++ [(L' + 1, oc)])) ?_ ?sub
      case sub =>
        intro p hp
        rcases List.mem_cons.mp hp with rfl | hp
        · exact mem_app (.head _)
        rcases List.mem_append.mp hp with hp | hp
        · exact mem_l hp
        · exact mem_app (.tail _ hp)
      have hM : ∀ p ∈ tlS ++ [(L' + 1, oc)], p.1 ≠ sa := fun p hp => by
        rcases List.mem_append.mp hp with hp | hp
        · exact Nat.ne_of_gt (abS p hp _ (.head _))
        · exact List.mem_singleton.mp hp ▸ hne.symm
      have hcm : (L' + 1, oc) ∈ tlS ++ [(L' + 1, oc)] := mem_app (.head _)
      have hmS' : (S, listOf ws.toArray cS) ∈ tlS ++ [(L' + 1, oc)] := mem_l hmS
      have hws' : All2 (FrAny (fun _ => True) 5 (tlS ++ [(L' + 1, oc)])) ws [(), (), (), (), (), (), (), (), ()] := hws.mono fun _ _ h => frAny_mono _ _ _ _ (fun p hp => mem_l hp) h
      generalize tlS ++ [(L' + 1, oc)] = M at hM hcm hmS' hws'
      refine ex_set (P := fun v n => Som5 fun D ys o2 tl ps => Amd8 (v = .ref D) (n = (D, tupO (ys : List Value).toArray 0) :: (sa, (o2 : Obj)) :: (tl ++ M)) (SrcO o2) (AllLt D ((sa, o2) :: (tl ++ M))) ((∀ p ∈ tl, p.1 ≠ sa)) (All2 (PtIn tl 4) ys ps) (2 ≤ ps.length) (ps.length ≤ 4)) ?e ?hx ?hs ?k
      case hx => exact rfl
      case hs => exact rfl
      case e =>
        refine Ev.mono (ev_tcomp (P := fun ys nx => Som3 fun o2 tl ps => Amd6 (nx = (sa, (o2 : Obj)) :: (tl ++ M)) (SrcO o2) ((∀ p ∈ tl, p.1 ≠ sa)) (All2 (PtIn tl 4) ys ps) (2 ≤ ps.length) (ps.length ≤ 4)) (ev_ty (bi_tuple W)) (ev_compE (clo := [(Str.ofString "source", L' + 1)]) (P0 := fun k m => ∃ j, k = 2 + j ∧ ∃ o2, Amd4 (0 ≤ j) (j < 3) (SrcO o2) (m = (sa, (o2 : Obj)) :: M)) (fun n i ys nx => Som3 fun o2 tl ps => Amd7 (nx = (sa, (o2 : Obj)) :: (tl ++ M)) (SrcO o2) ((∀ p ∈ tl, p.1 ≠ sa)) (All2 (PtIn tl 4) ys ps) (ys.length = i) (2 ≤ n) (n ≤ 4)) ?it ?h0 ?turn ?fin ?c1 ?c2 ?c3 ?c4 ?c5 ?c6)) ?po
        case c1 => exact rfl
        case c2 => decide
        case c3 => exact rfl
        case c4 => decide
        case c5 => exact rfl
        case c6 => exact fun _ => rfl
        case po =>
          rintro v n ⟨D, ys, nx, rfl, rfl, hD, o2, tl, ps, rfl, ho2, htl, hall, h2, h4⟩
          exact ⟨D, ys, o2, tl, ps, rfl, rfl, ho2, hD, htl, hall, h2, h4⟩
        case fin =>
          rintro n D ys nx ⟨o2, tl, ps, rfl, ho2, htl, hall, hlen, hn2, hn4⟩ off
          have hpl := hall.len
          exact ⟨D, ys, _, rfl, rfl, by omega, o2, tl, ps, rfl, ho2, htl, hall, by omega, by omega⟩
        case h0 =>
          rintro n n0 ⟨j, rfl, o2, j0, j3, ho2, rfl⟩
          exact ⟨(2 + j).toNat, by omega, by omega, o2, [], [], rfl, ho2, fun _ h => (nomatch h), True.intro, rfl, by omega, by omega⟩
        case it =>
          refine ev_rangeE (ev_ty (bi_range W)) (ev_addE evI_const ?tk) ?r1 ?r2
          case r1 => exact rfl
          case r2 => exact rfl
          case tk =>
            refine Ev.mono (take (by decide) (by decide) hso hM hcm hoc) ?a3
            case a3 =>
              rintro v n ⟨o2, k, t, rfl, k0, k1, ho2, rfl⟩
              exact ⟨k, t, rfl, o2, k0, k1, ho2, rfl⟩
        case turn =>
          rintro n i t ys nx I oI Cc oC D m₂ hi ⟨o2, tl, ps, rfl, ho2, htl, hall, hlen, hn2, hn4⟩ hC hv off
          have hoff := off.mem
          refine Ev.sub (news' := (sa, o2) :: (I, oI) :: (Cc, oC) :: (D, LCg.lst ys) :: (tl ++ M)) ?_ ?sub
          case sub =>
            intro p hp
            simp only [List.mem_cons] at hp ⊢
            rcases hp with h | h | h | h | h <;> simp [h]
          have hs0 := hoff (sa, o2) (.head _)
          have hr : ∀ p ∈ (I, oI) :: (Cc, oC) :: (D, LCg.lst ys) :: (tl ++ M), p.1 ≠ sa := List.forall_mem_cons.mpr ⟨hs0.1.symm, List.forall_mem_cons.mpr ⟨hs0.2.1.symm, List.forall_mem_cons.mpr ⟨hs0.2.2.symm, fun p hp => (List.mem_append.mp hp).elim (htl p) (hM p)⟩⟩⟩
          refine Ev.mono (ev_callV (ev_fnC (fn_law_point W).1) (fn_law_point W).2 (evsV_cons (ev_cellC (c := L' + 1) rfl (.tail _ (.tail _ (.tail _ (.tail _ (mem_app hcm))))) hoc) evsV_nil) (point_con W sa o2 _ ho2 hr) (by decide)) ?_
          rintro v m ⟨o3, tl2, ho3, rfl, ab2, q, hq⟩
          have hgt : ∀ p ∈ tl2, p.1 ≠ sa ∧ p.1 ≠ I ∧ p.1 ≠ Cc ∧ p.1 ≠ D := fun p hp => ⟨Nat.ne_of_gt (ab2 p hp _ (.head _)), Nat.ne_of_gt (ab2 p hp _ (.tail _ (.head _))), Nat.ne_of_gt (ab2 p hp _ (.tail _ (.tail _ (.head _)))), Nat.ne_of_gt (ab2 p hp _ (.tail _ (.tail _ (.tail _ (.head _)))))⟩
          refine ⟨(sa, o3) :: ((tl2 ++ tl) ++ M), ?_, LCg.Off3.of ?_, o3, tl2 ++ tl, ps ++ [q], rfl, ho3, ?_, All2.app (as' := [v]) (bs' := [q]) ⟨hq.mono fun p hp => mem_l hp, True.intro⟩ (hall.mono fun _ _ h => h.mono fun p hp => mem_app hp), by rw [List.length_append, hlen]; rfl, hn2, hn4⟩
          · intro p hp
            rw [List.append_assoc] at hp
            simp only [List.mem_cons, List.mem_append] at hp ⊢
            rcases hp with h | h | h | h | h | h <;> simp [h]
          · intro p hp
            rcases List.mem_cons.mp hp with rfl | hp
            · exact hs0
            rw [List.append_assoc] at hp
            rcases List.mem_append.mp hp with hp | hp
            · exact (hgt p hp).2
            · exact hoff p (.tail _ hp)
          · intro p hp
            rcases List.mem_append.mp hp with hp | hp
            · exact (hgt p hp).1
            · exact htl p hp
      case k =>
        rintro v n ⟨D, ys, o2, tl, ps, rfl, rfl, ho2, hD, htl, hall, h2, h4⟩
        refine Ex.sub (news' := (sa, o2) :: ((D, tupO ys.toArray 0) :: (tl ++ M))) ?_ ?sub
        case sub =>
          intro p hp
          simp only [List.mem_cons] at hp ⊢
          rcases hp with h | h | h <;> simp [h]
        have hM1 : ∀ p ∈ (D, tupO ys.toArray 0) :: (tl ++ M), p.1 ≠ sa := List.forall_mem_cons.mpr ⟨Nat.ne_of_gt (ktn_ltOf hD (sa, o2) (.head _)), fun p hp => (List.mem_append.mp hp).elim (htl p) (hM p)⟩
        have hc : CvIn ((D, tupO ys.toArray 0) :: (tl ++ M)) 4 (.ref D) ps := ⟨D, ys, 0, rfl, .head _, hall.mono fun _ _ h => h.mono fun p hp => .tail _ (mem_l hp)⟩
        have hcm1 : (L' + 1, oc) ∈ (D, tupO ys.toArray 0) :: (tl ++ M) := .tail _ (mem_app hcm)
        have hmS1 : (S, listOf ws.toArray cS) ∈ (D, tupO ys.toArray 0) :: (tl ++ M) := .tail _ (mem_app hmS')
        have hws1 : All2 (FrAny (fun _ => True) 5 ((D, tupO ys.toArray 0) :: (tl ++ M))) ws [(), (), (), (), (), (), (), (), ()] := hws'.mono fun _ _ h => frAny_mono _ _ _ _ (fun p hp => .tail _ (mem_app hp)) h
        generalize (D, tupO ys.toArray 0) :: (tl ++ M) = M1 at hM1 hc hcm1 hmS1 hws1
        have hlen := hws1.len
        have one : ∀ {l : Bnd} {o : Obj} {p q q1 q2 : Pos}, SrcO o → look l (Str.ofString "shares") = some (.ref S) → Ev C C.env l ((sa, o) :: M1) (.Call (.Name (Str.ofString "_law_one") q) [.Name (Str.ofString "source") q1, .Name (Str.ofString "shares") q2] [] p) (fun v n => Som2 fun o3 t => Amd3 (n = (sa, (o3 : Obj)) :: M1) (SrcO o3) (FrIn M1 v 5 t)) := fun {l o p q q1 q2} ho kS =>
          Ev.mono (ev_callVV (fn_law_one W).2 (ev_fn (fn_law_one W).1 rfl rfl) (ev_cell (c := L' + 1) rfl (.tail _ hcm1) hoc rfl rfl) (ev_local kS rfl rfl) (one_con W sa o M1 S cS ws (by rw [hlen]; decide) (by rw [hlen]; decide) ho hM1 hmS1) (by decide)) fun v n ⟨o3, hv, ho3, e⟩ => by
            obtain ⟨t, ht, _⟩ := All2.mem (P := fun x => FrAny (fun _ => True) 5 M1 x ()) (fun _ _ h => h) hws1 v hv
            exact ⟨o3, t, e, ho3, ht⟩
        refine ex_set3s (P := fun v n => Som8 fun D3 o3 vt vs k tk t s => Amd5 (v = .ref D3) (n = (D3, tupO #[vt, vs, .int k tk] 0) :: (sa, (o3 : Obj)) :: M1) (SrcO o3) (FrIn M1 vt 5 t) (FrIn M1 vs 5 s)) ?e ?hx ?hy ?hz ?hs1 ?hs2 ?k
        case hx => exact rfl
        case hy => exact rfl
        case hz => exact rfl
        case hs1 => exact rfl
        case hs2 => exact rfl
        case e =>
          refine ev_tuple (P := fun us n => Som7 fun o3 vt vs k tk t s => Amd5 (us = [vt, vs, .int k tk]) (n = (sa, (o3 : Obj)) :: M1) (SrcO o3) (FrIn M1 vt 5 t) (FrIn M1 vs 5 s)) (evs_cons (one ho2 rfl) ?q1) ?q2
          case q2 =>
            rintro us n D3 ⟨o3, vt, vs, k, tk, t, s, rfl, rfl, ho3, ht, hs⟩ hD3
            exact ⟨Nat.le_of_ble_eq_true rfl, D3, o3, vt, vs, k, tk, t, s, rfl, rfl, ho3, ht, hs⟩
          case q1 =>
            rintro vt n ⟨o3, t, rfl, ho3, ht⟩
            refine evs_cons (one ho3 rfl) ?_
            rintro vs n ⟨o4, s, rfl, ho4, hs⟩
            refine evs_cons (take (by decide) (by decide) ho4 hM1 hcm1 hoc) ?a4
            case a4 =>
              rintro v n ⟨o5, k, tk, rfl, k0, k1, ho5, rfl⟩
              refine evs_nil.mono ?_
              rintro us n ⟨rfl, rfl⟩
              exact ⟨o5, vt, vs, k, tk, t, s, rfl, rfl, ho5, ht, hs⟩
        case k =>
          rintro v n ⟨D3, o3, vt, vs, k, tk, t, s, rfl, rfl, ho3, ht, hs⟩
          exact ⟨D3, 0, vt, vs, .int k tk, rfl, .head _, Ex.sub (news' := (sa, o3) :: M1) (hT W L' C _ sa oc o3 M1 (.ref D) vt vs ps t s k tk rfl rfl rfl rfl hc ht hs h2 h4 ho3 hM1 hcm1 hoc) (fun p hp => .tail _ hp)⟩

end Mine

end
section
set_option linter.unusedVariables false
open PySem PySem.W PyProof.Rows PySem.Calls
set_option Elab.async false
set_option maxRecDepth 100000
set_option maxHeartbeats 1000000
namespace Mine
theorem ints_are : ∀ {vs : List Value} {xs : List Int}, IntsAre vs xs → ∀ (i : Nat) (v : Value), vs[i]? = some v → Som2 fun x t => v = .int x t
  | _, _, .nil, i, v, e => by cases e
  | _, _, .cons n t h, 0, v, e => ⟨n, t, (Option.some.inj e).symm⟩
  | _, _, .cons n t h, i + 1, v, e => ints_are h i v e
/-- law's frame, as the head leaves it -/
theorem law_enter {w : World} {mean : ExcName → Option Value} {mg mb : Str → Option Value} {base h₁ : Heap} {r fa cd : Addr} {ow : Obj} {vs : List Value} {xs : List Int} {s : Shared} {tk : Tok} {Q : Flow → Shared → Prop} {E : Value → Shared → Prop}
    (X : (hd.heap_39 w.params).In base) (T : Top hd.view_39 (looseW hd.view_39 [Str.ofString "fraction"]) mean mg mb base) (K : Below callerA base [] base) (hL : base.IsList r vs.toArray) (hI : IntsAre vs xs)
    (F : Fr base base.objs.size h₁ (bindL (envOfC (Str.ofString "law") lawD.scope base.objs.size fa (.ref cd)).kindOf [(Str.ofString "script", .ref r)] (fun _ => none)))
    (N : News base base.objs.size h₁ [(base.objs.size + 1, ow)])
    (Y : CellsAre (bindC (envOfC (Str.ofString "law") lawD.scope base.objs.size fa (.ref cd)).kindOf [(Str.ofString "script", .ref r)] (fun _ => none)) (cellsFrom (base.objs.size + 1) lawD.scope.names []) [(base.objs.size + 1, ow)])
    (pe : PassesOwn (model PR w) (callerA.deeper (envOfC (Str.ofString "law") lawD.scope base.objs.size fa (.ref cd))) (envOfC (Str.ofString "law") lawD.scope base.objs.size fa (.ref cd)) E)
    (q : ∀ l' n' h' tk', Fr base base.objs.size h' (look l') → News base base.objs.size h' n' → Q (.ret (.bool true)) { s with heap := h', toks := tk' }) :
    wpAny (model PR w) (callerA.deeper (envOfC (Str.ofString "law") lawD.scope base.objs.size fa (.ref cd))) (execs lawD.body (envOfC (Str.ofString "law") lawD.scope base.objs.size fa (.ref cd))) Q E { s with heap := h₁, toks := tk } := by
  have hLP := law_p
  obtain ⟨ob, hob, hc, c, hdt⟩ := hL
  have hkl : ∀ x ∈ [(Str.ofString "script", Value.ref r)], (envOfC (Str.ofString "law") lawD.scope base.objs.size fa (.ref cd)).kindOf x.1 = some .local := fun x hx => by
    rw [List.mem_singleton.mp hx]
    rfl
  have e0 : (fun _ => none : Str → Option Value) = look [] := rfl
  rw [e0, bindL_look _ [] hkl, List.append_nil] at F
  rw [bindC_none _ _ hkl] at Y
  obtain ⟨o1, e1, d1⟩ := CellsAre.one Y
  have e2 : ow = o1 := congrArg Prod.snd (List.cons.inj e1).1
  subst e2
  refine law_p ⟨w, mean, mg, mb⟩ base.objs.size ⟨callerA.depth + 1, 4 + 3, some [], Str.ofString "law", fa, .ref cd, [], callerA, base, base, base.objs.size, K, X, T, rfl, by decide, by decide⟩ r ob vs ow hob ⟨hc, c, hdt⟩ (ints_are hI) d1 E Q _ pe F N ?_ ?_
  · rintro v l' n' h' tk' F' N' rfl
    exact q l' n' h' tk' F' N'
  · intro l' n' h' tk' F' N' p
    exact p.elim

end Mine

end
open PySem PySem.W PyProof.Rows PySem.Calls
set_option Elab.async false
set_option maxRecDepth 100000
set_option maxHeartbeats 8000000
theorem PySem.Challenge.cw_nu0005_01_holds : PySem.Challenge.rw_nu0005_01.Holds := by
  refine Mine.hd ?_
  k_go0
  refine' Mine.law_enter ?X ?T ?K ?hL ?hI ?F ?N ?Y ?pe ?q
  case X => assumption
  case T => assumption
  case K => assumption
  case hL => assumption
  case hI => assumption
  case F => assumption
  case N => assumption
  case Y => assumption
  case pe => exact PassesOwn.leaving
  case q =>
    intro l' n' h' tk' F' N'
    refine' goodW_bool F' ?g (raisesW_false ?hn) ?hp
    case g => assumption
    case hn => wrow_none_raised
    case hp => wrow_post
