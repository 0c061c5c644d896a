import PyProof.Rows.All
import Wide.All
import OpenK.AllK
import Wide.FinOn
import Lean
import PySem.Challenge.RW_xm0790_01
open PySem PySem.W PySem.Calls PyProof.Rows PyProof.V
set_option Elab.async false
set_option maxRecDepth 100000
set_option maxHeartbeats 8000000

namespace Mine
abbrev nm (x : String) : Str := Str.ofString x

def RopeMid (h₀ : Heap) (L : Addr) (m : Str → Option Value) (s s' : Shared) : Prop :=
  ∃ h' tk l a ta b tb, s' = { s with heap := h', toks := tk } ∧ Fr h₀ L h' (fun y => if y = Str.ofString "rope" then some (.ref l) else m y) ∧
    News h₀ L h' [(l, listOf #[.int a ta, .int b tb] 0)] ∧ 0 ≤ b ∧ b < 70000
theorem mid_rope {M : Model} {A : Around} {E : Value → Shared → Prop} {Q : Flow → Shared → Prop} {s : Shared} {env : Env} {st : Stmt} {rest : List Stmt} {h₀ : Heap} {L : Addr} {m : Str → Option Value}
    (_F : Fr h₀ L s.heap m)
    (h1 : wpAny M A (exec st env) (fun f s' => match f with | .next => RopeMid h₀ L m s s' | f => Q f s') E s)
    (h2 : ∀ h' tk l a ta b tb, Fr h₀ L h' (fun y => if y = Str.ofString "rope" then some (.ref l) else m y) → News h₀ L h' [(l, listOf #[.int a ta, .int b tb] 0)] → 0 ≤ b → b < 70000 →
      wpAny M A (execs rest env) Q E { s with heap := h', toks := tk }) : wpAny M A (execs (st :: rest) env) Q E s :=
  execs_mid (RopeMid h₀ L m s) h1 (by rintro _ ⟨h', tk, l, a, ta, b, tb, rfl, F, N, x, y⟩; exact h2 h' tk l a ta b tb F N x y)
theorem bnd (x : Int) : 0 ≤ x.fmod 65167 + 131 ∧ x.fmod 65167 + 131 < 70000 := by
  have h1 := Int.fmod_nonneg_of_pos x (b := 65167) (by decide)
  have h2 := Int.fmod_lt_of_pos x (b := 65167) (by decide)
  omega
theorem rope_end {h₀ : Heap} {L : Addr} {m : Str → Option Value} {s : Shared} {h' : Heap} {tk : Nat} {l : Addr} {a : Int} {ta : Tok} {x : Int} {tb : Tok}
    (F : Fr h₀ L h' (fun y => if y = Str.ofString "rope" then some (.ref l) else m y)) (N : News h₀ L h' [(l, listOf #[.int a ta, .int (x.fmod 65167 + 131) tb] 0)]) : RopeMid h₀ L m s { s with heap := h', toks := tk } :=
  ⟨h', tk, l, a, ta, _, tb, rfl, F, N, (bnd x).1, (bnd x).2⟩

def TurnJ (m₀ : Str → Option Value) (x : Str) (stored : List Str) (l : Addr) (m' : Str → Option Value) (nx : List (Addr × Obj)) : Prop :=
  ∃ a ta b tb, nx = [(l, listOf #[.int a ta, .int b tb] 0)] ∧ 0 ≤ b ∧ b < 70000 ∧ ∀ z, z ≠ x → stored.contains z = false → m' z = m₀ z

section
variable {prog : Program} {w : World} {A : Around} {E : Value → Shared → Prop} {s : Shared} {env : Env} {h₀ : Heap} {x : Str} {body : List Stmt} {Q : Flow → Shared → Prop}
theorem turn_iter {r l : Addr} {t₀ u₀ v₀ : Tok} {m₀ : Str → Option Value} {a₀ b₀ : Int} {ta₀ tb₀ : Tok} (stored : List Str)
    (hh : A.handled = none) (hr : IsRange s.heap r 0 3 1 t₀ u₀ v₀) (F : Fr h₀ env.locals s.heap m₀) (N : News h₀ env.locals s.heap [(l, listOf #[.int a₀ ta₀, .int b₀ tb₀] 0)]) (h0 : 0 ≤ b₀) (h1 : b₀ < 70000)
    (turn : ∀ (a : Int) (ta : Tok) (b : Int) (tb : Tok) (k : Int) t (u : Str → Option Value) h tk own, OwnOff own [l] → 0 ≤ b → b < 70000 →
      Fr h₀ env.locals h (fun y => if y = x then some (.int k t) else if stored.contains y then u y else m₀ y) → News h₀ env.locals h ((l, listOf #[.int a ta, .int b tb] 0) :: own) →
      wpAny (model prog w) A (execs body env) (InvPostN h₀ env.locals (TurnJ m₀ x stored l) own [l] { s with heap := h, toks := tk } Q) E { s with heap := h, toks := tk })
    (done : ∀ (a : Int) (ta : Tok) (b : Int) (tb : Tok) (u : Str → Option Value) h tk, Fr h₀ env.locals h (fun y => if y = x then u y else if stored.contains y then u y else m₀ y) → News h₀ env.locals h [(l, listOf #[.int a ta, .int b tb] 0)] → Q .next { s with heap := h, toks := tk }) :
    wpAny (model prog w) A (pyIter (.ref r)) (fun it s₂ => LoopAtV prog w A h₀ env x body Q E it s₂) E s := by
  refine kst_range (σ := Int × Tok × Int × Tok) (n := 3) (fun c => [(l, listOf #[.int c.1 c.2.1, .int c.2.2.1 c.2.2.2] 0)]) (fun _ => []) (fun _ => True) stored (fun _ c => 0 ≤ c.2.2.1 ∧ c.2.2.1 < 70000) (a₀, ta₀, b₀, tb₀) hh hr (by decide) (by decide) F N trivial (fun _ hp => nomatch hp) ⟨h0, h1⟩ ?_ ?_
  · rintro ⟨a, ta, b, tb⟩ pre k t u h tk own _ _ hoff _ ⟨p0, p1⟩ F₁ N₁
    have := turn a ta b tb k t u h tk own hoff p0 p1 F₁ N₁
    refine wpAny_mono this (fun f s₂ p => ?_) (fun _ _ e => e)
    have up : InvEndN h₀ env.locals (TurnJ m₀ x stored l) own [l] { s with heap := h, toks := tk } s₂ →
        InvEndN h₀ env.locals (KstS (σ := Int × Tok × Int × Tok) (fun c => [(l, listOf #[.int c.1 c.2.1, .int c.2.2.1 c.2.2.2] 0)]) (fun _ => []) (fun _ => True) x stored m₀ (fun _ c => 0 ≤ c.2.2.1 ∧ c.2.2.1 < 70000) (pre ++ [k])) own [l] { s with heap := h, toks := tk } s₂ := by
      rintro ⟨h', tk', m', news', nx', e', F', N', hn', ho', ha, a, ta, b, tb, e1, e2, e3, e4⟩
      exact ⟨h', tk', m', news', nx', e', F', N', hn', ho', ha, (a, ta, b, tb), e1, trivial, fun _ hp => (nomatch hp), fun z hz _ hs => e4 z hz hs, e2, e3⟩
    cases f with
    | ret v => exact p
    | brk => exact p
    | next => exact up p
    | cont => exact up p
  · rintro ⟨a, ta, b, tb⟩ u h tk _ _ F₁ N₁
    exact done a ta b tb u h tk F₁ N₁
end
end Mine

namespace Mine
structure DrawAt (prog : Program) (w : World) (d : Addr) (o : Obj) (l : Addr) (own : List (Addr × Obj)) (b ov mv pv : Int) : Prop where
  dict : o.IsDictOf (PySem.intKind prog w) ([] : List (Int × Value))
  lo : (d == sysModules) = false
  ll : l < d
  lw : ∀ p ∈ own, p.1 < d
  b0 : 0 ≤ b
  b1 : b < 70000
  o0 : 1 ≤ ov
  o1 : ov ≤ 9
  m0 : 1 ≤ mv
  m1 : mv ≤ 9
  p0 : 0 ≤ pv
  p1 : pv ≤ 11

def drawn (m : Str → Option Value) (d : Addr) (ov : Int) (to : Tok) (mv : Int) (tm : Tok) (pv : Int) (tp : Tok) : Str → Option Value :=
  fun y => if y = Str.ofString "due" then some (.ref d) else if y = Str.ofString "place" then some (.int pv tp) else if y = Str.ofString "most" then some (.int mv tm) else if y = Str.ofString "own" then some (.int ov to) else m y

def DrawMid (prog : Program) (w : World) (h₀ : Heap) (L : Addr) (m : Str → Option Value) (l : Addr) (own : List (Addr × Obj)) (s s' : Shared) : Prop :=
  ∃ h' tk a ta b tb d o ov to mv tm pv tp, s' = { s with heap := h', toks := tk } ∧ Fr h₀ L h' (drawn m d ov to mv tm pv tp) ∧
    News h₀ L h' ((d, o) :: (l, listOf #[.int a ta, .int b tb] 0) :: own) ∧ DrawAt prog w d o l own b ov mv pv
theorem mid_draw {prog : Program} {w : World} {A : Around} {E : Value → Shared → Prop} {Q : Flow → Shared → Prop} {s : Shared} {env : Env} {st : Stmt} {rest : List Stmt} {h₀ : Heap} {L : Addr} {m : Str → Option Value} {l : Addr} {own : List (Addr × Obj)} {v : Obj}
    (_F : Fr h₀ L s.heap m) (_N : News h₀ L s.heap ((l, v) :: own))
    (h1 : wpAny (model prog w) A (exec st env) (fun f s' => match f with | .next => DrawMid prog w h₀ L m l own s s' | f => Q f s') E s)
    (h2 : ∀ h' tk a ta b tb d o ov to mv tm pv tp, Fr h₀ L h' (drawn m d ov to mv tm pv tp) → News h₀ L h' ((d, o) :: (l, listOf #[.int a ta, .int b tb] 0) :: own) → DrawAt prog w d o l own b ov mv pv →
      wpAny (model prog w) A (execs rest env) Q E { s with heap := h', toks := tk }) : wpAny (model prog w) A (execs (st :: rest) env) Q E s :=
  execs_mid (DrawMid prog w h₀ L m l own s) h1 (by rintro _ ⟨h', tk, a, ta, b, tb, d, o, ov, to, mv, tm, pv, tp, rfl, F, N, D⟩; exact h2 h' tk a ta b tb d o ov to mv tm pv tp F N D)
theorem fm9 (x : Int) : 1 ≤ 1 + x.fmod 9 ∧ 1 + x.fmod 9 ≤ 9 := by
  have h1 := Int.fmod_nonneg_of_pos x (b := 9) (by decide)
  have h2 := Int.fmod_lt_of_pos x (b := 9) (by decide)
  omega
theorem fm12 (x : Int) : 0 ≤ x.fmod 12 ∧ x.fmod 12 ≤ 11 := by
  have h1 := Int.fmod_nonneg_of_pos x (b := 12) (by decide)
  have h2 := Int.fmod_lt_of_pos x (b := 12) (by decide)
  omega
theorem fmB (x : Int) : 0 ≤ x.fmod 65167 ∧ x.fmod 65167 < 70000 := by
  have h1 := Int.fmod_nonneg_of_pos x (b := 65167) (by decide)
  have h2 := Int.fmod_lt_of_pos x (b := 65167) (by decide)
  omega
theorem draw_end {prog : Program} {w : World} {h₀ : Heap} {L : Addr} {m : Str → Option Value} {l : Addr} {own : List (Addr × Obj)} {s : Shared} {h' : Heap} {tk : Nat} {a b x y z : Int} {ta tb to tm tp : Tok} {d : Addr} {o : Obj} {p₀ : Addr × Obj}
    (F : Fr h₀ L h' (fun q => if q = Str.ofString "due" then some (.ref d) else if q = Str.ofString "place" then some (.int (z.fmod 12) tp) else if q = Str.ofString "most" then some (.int (1 + y.fmod 9) tm) else if q = Str.ofString "own" then some (.int (1 + x.fmod 9) to) else m q))
    (N : News h₀ L h' (p₀ :: (d, o) :: (l, listOf #[.int a ta, .int b tb] 0) :: own)) (hd : o.IsDictOf (PySem.intKind prog w) ([] : List (Int × Value))) (lo : (d == sysModules) = false) (l1 : ∀ p ∈ (l, listOf #[.int a ta, .int b tb] 0) :: own, p.1 < d) (b0 : 0 ≤ b ∧ b < 70000) :
    DrawMid prog w h₀ L m l own s { s with heap := h', toks := tk } :=
  ⟨h', tk, a, ta, b, tb, d, o, _, to, _, tm, _, tp, rfl, F, (fun p hp => N p (.tail _ hp)), ⟨hd, lo, l1 _ (.head _), (fun p hp => l1 p (.tail _ hp)), b0.1, b0.2, (fm9 x).1, (fm9 x).2, (fm9 y).1, (fm9 y).2, (fm12 z).1, (fm12 z).2⟩⟩
end Mine

namespace Mine
def dueStep (B O : Int) (c : List (Int × Int)) (k : Int) : List (Int × Int) := kdfPut c ((B + k).fdiv O) (kdfLook c ((B + k).fdiv O) 0 + 1)
def dueOf (B O : Int) (ks : List Int) : List (Int × Int) := ks.foldl (dueStep B O) []
theorem dueOf_snoc (B O : Int) (ks : List Int) (k : Int) : dueOf B O (ks ++ [k]) = dueStep B O (dueOf B O ks) k := by
  unfold dueOf; rw [List.foldl_append]; rfl
theorem due_len_go (B O : Int) : ∀ (ks : List Int) (c : List (Int × Int)), (ks.foldl (dueStep B O) c).length ≤ c.length + ks.length
  | [], c => by simp
  | k :: ks, c => by
    have h1 := due_len_go B O ks (dueStep B O c k)
    have h2 : (dueStep B O c k).length ≤ c.length + 1 := kdfPut_len _ _ _
    simp only [List.foldl_cons, List.length_cons]
    omega
theorem due_len (B O : Int) (ks : List Int) : (dueOf B O ks).length ≤ ks.length := by
  have := due_len_go B O ks []
  simpa [dueOf] using this

def PartJ (prog : Program) (w : World) (B O : Int) (x : Str) (stored : List Str) (m₀ : Str → Option Value) (d : Addr) (tl : List (Addr × Obj)) (pre : List Int) (m' : Str → Option Value) (nx : List (Addr × Obj)) : Prop :=
  ∃ o kvs, nx = (d, o) :: tl ∧ o.IsDictOf (PySem.intKind prog w) kvs ∧ PyProof.V.FlatPairs PyData.int kvs (kdfD (dueOf B O pre)) ∧ ∀ z, z ≠ x → stored.contains z = false → m' z = m₀ z

section
variable {prog : Program} {w : World} {A : Around} {E : Value → Shared → Prop} {s : Shared} {env : Env} {h₀ : Heap} {x : Str} {body : List Stmt} {Q : Flow → Shared → Prop}
theorem part_iter {r d : Addr} {b₀ : Int} {t₀ u₀ v₀ : Tok} {m₀ : Str → Option Value} {tl : List (Addr × Obj)} {o₀ : Obj} {n : Nat} (B O : Int) (stored : List Str)
    (hh : A.handled = none) (hr : IsRange s.heap r 0 b₀ 1 t₀ u₀ v₀) (hsmall : Builtin.Range.small 0 b₀ 1 = true) (hn : Builtin.Range.rangeSize 0 b₀ 1 = (n : Int)) (F : Fr h₀ env.locals s.heap m₀) (N : News h₀ env.locals s.heap ((d, o₀) :: tl))
    (hd₀ : o₀.IsDictOf (PySem.intKind prog w) ([] : List (Int × Value)))
    (turn : ∀ (o : Obj) (kvs : List (Int × Value)) (pre : List Int) (k : Int) t (u : Str → Option Value) h tk own, k = (pre.length : Int) → pre.length < n → OwnOff own (d :: tl.map (·.1)) →
      o.IsDictOf (PySem.intKind prog w) kvs → PyProof.V.FlatPairs PyData.int kvs (kdfD (dueOf B O pre)) →
      Fr h₀ env.locals h (fun y => if y = x then some (.int k t) else if stored.contains y then u y else m₀ y) → News h₀ env.locals h ((d, o) :: (tl ++ own)) →
      wpAny (model prog w) A (execs body env) (InvPostN h₀ env.locals (PartJ prog w B O x stored m₀ d tl (pre ++ [k])) own (d :: tl.map (·.1)) { s with heap := h, toks := tk } Q) E { s with heap := h, toks := tk })
    (done : ∀ (o : Obj) (kvs : List (Int × Value)) (u : Str → Option Value) h tk, o.IsDictOf (PySem.intKind prog w) kvs → PyProof.V.FlatPairs PyData.int kvs (kdfD (dueOf B O (rangeKs 0 n))) →
      Fr h₀ env.locals h (fun y => if y = x then u y else if stored.contains y then u y else m₀ y) → News h₀ env.locals h ((d, o) :: tl) → Q .next { s with heap := h, toks := tk }) :
    wpAny (model prog w) A (pyIter (.ref r)) (fun it s₂ => LoopAtV prog w A h₀ env x body Q E it s₂) E s := by
  refine kst_range (σ := Obj × List (Int × Value) × List (Int × Int)) (n := n) (fun c => (d, c.1) :: tl) (fun _ => []) (fun c => c.1.IsDictOf (PySem.intKind prog w) c.2.1 ∧ PyProof.V.FlatPairs PyData.int c.2.1 (kdfD c.2.2)) stored (fun pre c => c.2.2 = dueOf B O pre) (o₀, [], []) hh hr hsmall hn F N ⟨hd₀, PyProof.V.FlatPairs.nil⟩ (fun _ hp => nomatch hp) rfl ?_ ?_
  · rintro ⟨o, kvs, c⟩ pre k t u h tk own hk hlt hoff ⟨f1, f2⟩ (rfl : c = _) F₁ N₁
    refine wpAny_mono (turn o kvs pre k t u h tk own (by omega) hlt hoff f1 f2 F₁ N₁) (fun f s₂ p => ?_) (fun _ _ e => e)
    have up : InvEndN h₀ env.locals (PartJ prog w B O x stored m₀ d tl (pre ++ [k])) own (d :: tl.map (·.1)) { s with heap := h, toks := tk } s₂ →
        InvEndN h₀ env.locals (KstS (σ := Obj × List (Int × Value) × List (Int × Int)) (fun c => (d, c.1) :: tl) (fun _ => []) (fun c => c.1.IsDictOf (PySem.intKind prog w) c.2.1 ∧ PyProof.V.FlatPairs PyData.int c.2.1 (kdfD c.2.2)) x stored m₀ (fun pre c => c.2.2 = dueOf B O pre) (pre ++ [k])) own (d :: tl.map (·.1)) { s with heap := h, toks := tk } s₂ := by
      rintro ⟨h', tk', m', news', nx', e', F', N', hn', ho', ha, o, kvs, e1, e2, e3, e4⟩
      exact ⟨h', tk', m', news', nx', e', F', N', hn', ho', ha, (o, kvs, dueOf B O (pre ++ [k])), e1, ⟨e2, e3⟩, fun _ hp => (nomatch hp), fun z hz _ hs => e4 z hz hs, rfl⟩
    cases f with
    | ret v => exact p
    | brk => exact p
    | next => exact up p
    | cont => exact up p
  · rintro ⟨o, kvs, c⟩ u h tk ⟨f1, f2⟩ (rfl : c = _) F₁ N₁
    exact done o kvs u h tk f1 f2 F₁ N₁
theorem part_end {L d : Addr} {m₀ m' : Str → Option Value} {tl own : List (Addr × Obj)} {o : Obj} {kvs : List (Int × Value)} {pre : List Int} {k B O : Int} {stored : List Str} {s₁ : Shared} {h' : Heap} {tk : Nat}
    (F : Fr h₀ L h' m') (N : News h₀ L h' ((d, o) :: (tl ++ own))) (hd : o.IsDictOf (PySem.intKind prog w) kvs) (hf : PyProof.V.FlatPairs PyData.int kvs (kdfD (dueStep B O (dueOf B O pre) k)))
    (hm : ∀ z, z ≠ x → stored.contains z = false → m' z = m₀ z) : InvEndN h₀ L (PartJ prog w B O x stored m₀ d tl (pre ++ [k])) own (d :: tl.map (·.1)) s₁ { s₁ with heap := h', toks := tk } := by
  refine InvEndN.intro F N ⟨o, kvs, rfl, hd, by rw [dueOf_snoc]; exact hf, hm⟩ rfl ?_ ?_
  · intro p hp
    rcases List.mem_cons.mp hp with rfl | hp
    · exact .head _
    · exact .tail _ (List.mem_append_left _ hp)
  · intro p hp
    exact .tail _ (List.mem_append_right _ hp)
end
end Mine

namespace Mine
def ovl (F S O L : Int) : Int :=
  if (if F + S < O + L then F + S else O + L) > (if F > O then F else O) then (if F + S < O + L then F + S else O + L) - (if F > O then F else O) else 0
def tup (p : Int × Int) : Dat := Dat.tuple [Dat.int p.1, Dat.int p.2]
def wOf (B M O : Int) (ks : List Int) : List (Int × Int) := (ks.filter fun k => decide (0 < ovl B M (k * O) O)).map fun k => (k, ovl B M (k * O) O)
theorem wOf_yes {B M O : Int} {ks : List Int} {k v : Int} (e : v = ovl B M (k * O) O) (h : 0 < v) : wOf B M O (ks ++ [k]) = wOf B M O ks ++ [(k, v)] := by
  subst e; simp [wOf, List.filter_append, h]
theorem wOf_no {B M O : Int} {ks : List Int} {k v : Int} (e : v = ovl B M (k * O) O) (h : ¬ 0 < v) : wOf B M O (ks ++ [k]) = wOf B M O ks := by
  subst e; simp [wOf, List.filter_append, h]

def WJ (B M O : Int) (x : Str) (stored : List Str) (m₀ : Str → Option Value) (f : Addr) (cst : List (Addr × Obj)) (pre : List Int) (m' : Str → Option Value) (nx : List (Addr × Obj)) : Prop :=
  KdS (σ := List Value × List Dat × Nat) (fun c => [(f, listOf c.1.toArray c.2.2)]) cst (fun _ => []) (fun nx c => DatAll nx c.1 c.2.1) x stored m₀ (fun pre c => c.2.1 = (wOf B M O pre).map tup) (f :: cst.map (·.1)) pre m' nx

section
variable {prog : Program} {w : World} {A : Around} {E : Value → Shared → Prop} {s : Shared} {env : Env} {h₀ : Heap} {x : Str} {body : List Stmt} {Q : Flow → Shared → Prop}
theorem weights_iter {r f : Addr} {a₀ b₀ : Int} {t₀ u₀ v₀ : Tok} {m₀ : Str → Option Value} {cst : List (Addr × Obj)} {n : Nat} (B M O : Int) (stored : List Str)
    (hh : A.handled = none) (hr : IsRange s.heap r a₀ b₀ 1 t₀ u₀ v₀) (hsmall : Builtin.Range.small a₀ b₀ 1 = true) (hn : Builtin.Range.rangeSize a₀ b₀ 1 = (n : Int)) (F : Fr h₀ env.locals s.heap m₀) (N : News h₀ env.locals s.heap ((f, listOf #[] 0) :: cst))
    (turn : ∀ (vs : List Value) (ds : List Dat) (cn : Nat) (tl : List (Addr × Obj)) (pre : List Int) (k : Int) t (u : Str → Option Value) h tk own, k = a₀ + (pre.length : Int) → pre.length < n → KdSep own tl (f :: cst.map (·.1)) → OwnOff (tl ++ own) (f :: cst.map (·.1)) →
      DatAll (cst ++ tl) vs ds → ds = (wOf B M O pre).map tup →
      Fr h₀ env.locals h (fun y => if y = x then some (.int k t) else if stored.contains y then u y else m₀ y) → News h₀ env.locals h ((f, listOf vs.toArray cn) :: (cst ++ (tl ++ own))) →
      wpAny (model prog w) A (execs body env) (InvPostG h₀ env.locals (WJ B M O x stored m₀ f cst (pre ++ [k])) own { s with heap := h, toks := tk } Q) E { s with heap := h, toks := tk })
    (done : ∀ (vs : List Value) (ds : List Dat) (cn : Nat) (tl : List (Addr × Obj)) (u : Str → Option Value) h tk, OwnOff tl (f :: cst.map (·.1)) → DatAll (cst ++ tl) vs ds → ds = (wOf B M O (rangeKs a₀ n)).map tup →
      Fr h₀ env.locals h (fun y => if y = x then u y else if stored.contains y then u y else m₀ y) → News h₀ env.locals h ((f, listOf vs.toArray cn) :: (cst ++ tl)) → Q .next { s with heap := h, toks := tk }) :
    wpAny (model prog w) A (pyIter (.ref r)) (fun it s₂ => LoopAtV prog w A h₀ env x body Q E it s₂) E s := by
  refine kd_range (σ := List Value × List Dat × Nat) (n := n) (fun c => [(f, listOf c.1.toArray c.2.2)]) cst (fun _ => []) (fun nx c => DatAll nx c.1 c.2.1) stored (fun pre c => c.2.1 = (wOf B M O pre).map tup) (f :: cst.map (·.1)) ([], [], 0) hh hr hsmall hn F N (fun p hp => by simpa using hp) (fun _ => rfl) DatAll.nil (fun _ hp => nomatch hp) rfl ?_ ?_
  · rintro ⟨vs, ds, cn⟩ tl pre k t u h tk own hk hlt hsep hoff f1 (p1 : ds = _) F₁ N₁
    exact turn vs ds cn tl pre k t u h tk own hk hlt hsep hoff f1 p1 F₁ N₁
  · rintro ⟨vs, ds, cn⟩ tl u h tk hoff f1 (p1 : ds = _) F₁ N₁
    exact done vs ds cn tl u h tk hoff f1 p1 F₁ N₁

theorem weights_no {L f : Addr} {m₀ m' : Str → Option Value} {cst tl own : List (Addr × Obj)} {vs : List Value} {ds : List Dat} {cn : Nat} {pre : List Int} {k v B M O : Int} {stored : List Str} {s₁ : Shared} {h' : Heap} {tk : Nat}
    (hsep : KdSep own tl (f :: cst.map (·.1))) (F : Fr h₀ L h' m') (N : News h₀ L h' ((f, listOf vs.toArray cn) :: (cst ++ (tl ++ own)))) (hD : DatAll (cst ++ tl) vs ds) (hds : ds = (wOf B M O pre).map tup)
    (e : v = ovl B M (k * O) O) (hv : ¬ 0 < v) (hm : ∀ z, z ≠ x → stored.contains z = false → m' z = m₀ z) :
    InvEndG h₀ L (WJ B M O x stored m₀ f cst (pre ++ [k])) own s₁ { s₁ with heap := h', toks := tk } := by
  refine kd_end (σ := List Value × List Dat × Nat) (Led := fun c => [(f, listOf c.1.toArray c.2.2)]) (vs, ds, cn) [] hsep F N ?_ ?_ rfl (fun _ hq => nomatch hq) (fun _ hq => nomatch hq) (fun _ hp => nomatch hp) (fun z hz _ hs => hm z hz hs) (by simpa using hD) ?_
  · intro p hp
    simp only [List.nil_append] at hp
    rcases List.mem_append.mp hp with hp | hp
    · exact List.mem_singleton.mp hp ▸ List.Mem.head _
    · refine List.Mem.tail _ ?_
      rcases List.mem_append.mp hp with hp | hp
      · exact List.mem_append_left _ hp
      · exact List.mem_append_right _ (List.mem_append_left _ hp)
  · intro p hp
    exact List.Mem.tail _ (List.mem_append_right _ (List.mem_append_right _ hp))
  · show ds = _
    rw [wOf_no e hv]; exact hds

theorem weights_yes {L f a : Addr} {m₀ m' : Str → Option Value} {cst tl own : List (Addr × Obj)} {vs : List Value} {ds : List Dat} {cn tn : Nat} {pre : List Int} {k v B M O : Int} {t₁ t₂ : Tok} {stored : List Str} {s₁ : Shared} {h' : Heap} {tk : Nat} {xs : Array Value}
    (hsep : KdSep own tl (f :: cst.map (·.1))) (F : Fr h₀ L h' m') (N : News h₀ L h' ((a, { cls := .type "tuple", data := .seq [Value.int k t₁, Value.int v t₂].toArray tn }) :: (f, listOf xs cn) :: (cst ++ (tl ++ own)))) (hx : xs = (vs ++ [Value.ref a]).toArray) (hD : DatAll (cst ++ tl) vs ds) (hds : ds = (wOf B M O pre).map tup)
    (e : v = ovl B M (k * O) O) (hv : 0 < v) (hm : ∀ z, z ≠ x → stored.contains z = false → m' z = m₀ z) (ha : ∀ p ∈ (f, listOf vs.toArray 0) :: (cst ++ (tl ++ own)), p.1 < a) :
    InvEndG h₀ L (WJ B M O x stored m₀ f cst (pre ++ [k])) own s₁ { s₁ with heap := h', toks := tk } := by
  subst hx
  refine kd_end (σ := List Value × List Dat × Nat) (Led := fun c => [(f, listOf c.1.toArray c.2.2)]) (vs ++ [Value.ref a], ds ++ [tup (k, v)], cn) [(a, { cls := .type "tuple", data := .seq [Value.int k t₁, Value.int v t₂].toArray tn })] hsep F N ?_ ?_ rfl ?_ ?_ (fun _ hp => nomatch hp) (fun z hz _ hs => hm z hz hs) ?_ ?_
  · intro p hp
    rcases List.mem_append.mp hp with hp | hp
    · exact List.mem_singleton.mp hp ▸ List.Mem.tail _ (List.Mem.head _)
    · rcases List.mem_append.mp hp with hp | hp
      · exact .tail _ (.tail _ (List.mem_append_left _ hp))
      · rcases List.mem_append.mp hp with hp | hp
        · exact List.mem_singleton.mp hp ▸ List.Mem.head _
        · exact .tail _ (.tail _ (List.mem_append_right _ (List.mem_append_left _ hp)))
  · intro p hp
    exact .tail _ (.tail _ (List.mem_append_right _ (List.mem_append_right _ hp)))
  · intro q hq b hb
    rw [List.mem_singleton.mp hq]
    rcases List.mem_cons.mp hb with rfl | hb
    · exact Nat.ne_of_lt (ha _ (.head _))
    · obtain ⟨p, hp, rfl⟩ := List.mem_map.mp hb
      exact Nat.ne_of_lt (ha p (.tail _ (List.mem_append_left _ hp)))
  · intro q hq p hp
    rw [List.mem_singleton.mp hq]
    exact Nat.ne_of_lt (ha p (.tail _ (List.mem_append_right _ (List.mem_append_right _ hp))))
  · show DatAll (cst ++ ([_] ++ tl)) (vs ++ [Value.ref a]) (ds ++ [tup (k, v)])
    refine DatAll.append (hD.mono kd_sub) (DatAll.one ?_)
    exact DatIn.tuple (kd_new (List.mem_singleton.mpr rfl)) (.cons (.int _ _) (.cons (.int _ _) .nil))
  · show ds ++ [tup (k, v)] = _
    rw [wOf_yes e hv, List.map_append, hds]; rfl
end
end Mine

namespace Mine
section
variable {M : Model} {A : Around} {E : Value → Shared → Prop} {s : Shared} {K : Frag} {h₀ : Heap} {L C : Addr} {m mg mb : Str → Option Value} {scope : Scope} {env : Env} {p : Program} {loose : List Str} {mean : ExcName → Option Value} {x : Str} {pos : Pos} {v : Value} {Q : Value → Shared → Prop}
theorem ld_built (keep : ∀ b o, h₀.get? b = some o → s.heap.get? b = some o) (X : K.In h₀) (T : Top p loose mean mg mb h₀) (e : nsIn K mainGlobals x = some none) (hv : bootBuiltins x = some v) (hn : x ≠ "__name__") (h : Q v s) (hg : env.globals = mainGlobals) (hb : env.builtins = builtinsNs)
    (hk : (compEnv scope C env).scope.kind = .function) (hx : (compEnv scope C env).kindOf x = some .globalImplicit) (hd : (x == ("__debug__" : Str)) = false) :
    wpAny M A (eval (.Name x pos) (compEnv scope C env)) Q E s :=
  Name_function_global hk hx (loadGlobal_builtin (env := compEnv scope C env) (show s.heap.Ns env.globals mg from hg ▸ (T.keeps keep).g) (mg_none_of X T.g e) (show s.heap.Ns env.builtins mb from hb ▸ (T.keeps keep).b) ((T.builtins x hn).trans hv) h) hd
end

theorem tup_of {h₀ h : Heap} {L : Addr} {news nn : List (Addr × Obj)} (N : News h₀ L h news) (hs : ∀ p ∈ nn, p ∈ news) : ∀ {vs : List Value} {cs : List (Int × Int)}, DatAll nn vs (cs.map tup) → ∀ v ∈ vs, ∃ t items, v = .ref t ∧ h.IsTuple t items
  | _, [], h, _, hv => by cases h; nomatch hv
  | _, c :: cs, .cons hd r, v, hv => by
    rcases List.mem_cons.mp hv with rfl | hv
    · cases hd with
      | tuple hm _ => exact ⟨_, _, rfl, _, (N _ (hs _ hm)).1, rfl, _, rfl⟩
    · exact tup_of N hs r v hv

theorem paired_self {p : Value → Bool} : ∀ {vs ys : List Value}, (∀ v, p v = true) → Paired (fun v y => y = v) (vs.filter p) ys → ys = vs
  | [], ys, _, h => by cases h; rfl
  | v :: vs, ys, hp, h => by
    rw [List.filter_cons_of_pos (hp v)] at h
    cases h with
    | cons e r => rw [e, paired_self hp r]

section
variable {prog : Program} {w : World} {A : Around} {E : Value → Shared → Prop} {s₁ : Shared} {h₀ : Heap} {L : Addr} {m : Str → Option Value} {news : List (Addr × Obj)}
theorem comp_tuple {K : Frag} {mg mb : Str → Option Value} {p : Program} {loose : List Str} {mean : ExcName → Option Value} {env : Env} {tn x : Str} {p1 p2 p3 : Pos} {scope : Scope} {Q : Value → Shared → Prop} {l : Addr} {vs : List Value} {cs : List (Int × Int)} {nn : List (Addr × Obj)} {cn : Nat}
    (hh : A.handled = none) (F : Fr h₀ L s₁.heap m) (N : News h₀ L s₁.heap news) (hl : (l, listOf vs.toArray cn) ∈ news) (hD : DatAll nn vs (cs.map tup)) (hs : ∀ p ∈ nn, p ∈ news) (hsz : vs.length ≤ 1000)
    (X : K.In h₀) (T : Top p loose mean mg mb h₀) (e : nsIn K mainGlobals tn = some none) (hv : bootBuiltins tn = some (.type "tuple")) (hn : tn ≠ "__name__") (hg : env.globals = mainGlobals) (hb : env.builtins = builtinsNs)
    (hk : ∀ C, (compEnv scope C env).scope.kind = .function) (ht : ∀ C, (compEnv scope C env).kindOf tn = some .globalImplicit) (hd : (tn == ("__debug__" : Str)) = false) (hx : ∀ C, (compEnv scope C env).kindOf x = some .local) (hdx : (x == ("__debug__" : Str)) = false)
    (he : ∀ C, starEach [Expr.Name x p2] (compEnv scope C env) = (false, eval (Expr.Name x p2) (compEnv scope C env)) :: starEach [] (compEnv scope C env))
    (g3 : ∀ D n h' tk, Fr h₀ L h' m → News h₀ L h' ((D, listOf vs.toArray n) :: news) → (∀ p ∈ news, p.1 ≠ D) → Q (.ref D) { s₁ with heap := h', toks := tk }) :
    wpAny (model prog w) A (pyIter (.ref l)) (CompPost prog w A env scope x [] ((Expr.Name tn p1).Call [Expr.Name x p2] [] p3) Q) E s₁ := by
  have hli : s₁.heap.IsList l vs.toArray := ⟨_, (N _ hl).1, rfl, cn, rfl⟩
  have hlt : l < s₁.heap.objs.size := by obtain ⟨_, e, _⟩ := hli; exact Heap.lt_size e
  have htup := tup_of N hs hD
  refine wpAny_pyIter_list hli ?_
  have up : ∀ (h' : Heap), (∀ b o', b ∉ [s₁.heap.objs.size] → (s₁.heap.push { cls := .type "list_iterator", data := .fields #[.ref l, .int 0 0] }).get? b = some o' → h'.get? b = some o') → ∀ b o', s₁.heap.get? b = some o' → h'.get? b = some o' :=
    fun h' hk b o' e => hk b o' (not_iter_of_old e) (Heap.get?_push_of_some _ e)
  refine ⟨fun _ => true, fun v y => y = v, s₁.heap.objs.size, [s₁.heap.objs.size, l], [s₁.heap.objs.size], vs.toArray.size, _, _, rfl, Walks.list hh _ l (Nat.ne_of_lt hlt) vs.toArray, (by rw [List.size_toArray, sizeLine_eq]; omega),
    ⟨⟨_, Heap.get?_push_size _ rfl, rfl, rfl⟩, hli.at fun o e => Heap.get?_push_of_some _ e⟩, ?_, ⟨?_, ?_⟩, ?_⟩
  · intro b hb
    show b < (s₁.heap.push _).objs.size
    rw [Heap.size_push]
    rcases List.mem_cons.mp hb with rfl | hb
    · exact Nat.lt_succ_self _
    · rw [List.mem_singleton.mp hb]; exact Nat.lt_succ_of_lt hlt
  · intro C i v s₃ m₃ E' hP hn' hm hkp htk
    rw [List.forIn_nil]
    exact wpAny_pure ⟨rfl, s₃.heap, s₃.toks, rfl, fun _ _ q => q⟩
  · intro C i v s₃ m₃ E' hP _ hn' hm hkp htk
    have hv' : v ∈ vs := by
      have : vs[i]? = some v := by simpa using hP
      exact List.mem_of_getElem? this
    obtain ⟨t, items, rfl, hit⟩ := htup v hv'
    have hit' : s₃.heap.IsTuple t items := by
      obtain ⟨o, ho, r⟩ := hit
      exact ⟨o, up s₃.heap hkp _ _ ho, r⟩
    have hkeep : ∀ b o, h₀.get? b = some o → s₃.heap.get? b = some o := fun b o q => up s₃.heap hkp b o (F.keep b o q)
    refine Call_ (ld_built (mb := mb) hkeep X T e hv hn ?_ hg hb (hk C) (ht C) hd)
    refine PyProof.Rows.callWith_type1 ?_ (he C) rfl
    refine spliced_more ?_ (he C)
    refine wpAny_Name (wpAny_loadName_local (hk C) (hx C) hn' hm ?_) hdx
    refine spliced_none ?_
    exact call_tuple_same hit' ⟨rfl, s₃.heap, s₃.toks, rfl, fun _ _ q => q⟩
  · intro D h' tk ys vs' hnew hlD hplD hlen hP hF hkp
    have e' : vs' = vs := by simpa using walked_is hlen hP
    subst e'
    have ey : ys.toList = vs' := paired_self (fun _ => rfl) hF
    have ey' : ys = vs'.toArray := by rw [← ey, Array.toArray_toList]
    subst ey'
    obtain ⟨n, hpl⟩ := hplD
    have hDs : D ∉ ([] : List Addr) := fun q => nomatch q
    have hnews : ∀ p ∈ news, p.1 ≠ D := fun p hp q => by
      rw [← q, Heap.get?_push_of_some _ (N p hp).1] at hnew; cases hnew
    have hDL : D ≠ L := by
      rintro rfl
      obtain ⟨oL, _, _, hL, _⟩ := F.ns
      rw [Heap.get?_push_of_some _ hL] at hnew; cases hnew
    have hD0 : h₀.get? D = none := by
      cases q : h₀.get? D with
      | none => rfl
      | some o' => rw [Heap.get?_push_of_some _ (F.keep _ _ q)] at hnew; cases hnew
    refine g3 D n h' tk (F.keeps (up h' hkp)) ?_ hnews
    intro p hp
    rcases List.mem_cons.mp hp with rfl | hp
    · exact ⟨hpl, hDL, hD0⟩
    · exact ⟨up h' hkp _ _ (N p hp).1, (N p hp).2⟩
end
end Mine

namespace Mine
def Rising (c : List (Int × Int)) : Prop := ∀ i j (hi : i < c.length) (hj : j < i), (c[j]'(Nat.lt_trans hj hi)).1 < (c[i]'hi).1

theorem range_getD (n k : Nat) (h : k < n) : (List.toArray (List.range n)).getD k 0 = k := by
  simp [Array.getD, h]
section
variable {cmp : Nat → Nat → (Bool → Shared → Prop) → Shared → Prop} {s : Shared}
theorem asc_run {n : Nat} {Q : Nat → Shared → Prop} (hc : ∀ i j C, j < i → i < n → C false s → cmp i j C s) (hQ : Q n s) :
    ∀ (f k : Nat), k + f = n → 1 ≤ k → (kas_asc (List.toArray (List.range n)) f k).kasWp cmp Q s
  | 0, k, e, _ => by
    have : k = n := by omega
    subst this; exact hQ
  | f + 1, k, e, h1 => by
    show cmp ((List.toArray (List.range n)).getD k 0) ((List.toArray (List.range n)).getD (k - 1) 0) _ s
    rw [range_getD n k (by omega), range_getD n (k - 1) (by omega)]
    refine hc k (k - 1) _ (by omega) (by omega) ?_
    show (if false = true then KasT.ret k else kas_asc _ f (k + 1)).kasWp cmp Q s
    rw [if_neg (by simp)]
    exact asc_run hc hQ f (k + 1) (by omega) (by omega)
theorem asc_sort {n : Nat} {Q : Array Nat → Shared → Prop} (h2 : 2 ≤ n) (hc : ∀ i j C, j < i → i < n → C false s → cmp i j C s) (hQ : Q (List.toArray (List.range n)) s) : (kas_sort n).kasWp cmp Q s := by
  unfold kas_sort kas_count
  rw [KasT.kasWp_bind, KasT.kasWp_bind]
  refine asc_run hc ?_ (n - 1) 1 (by omega) (Nat.le_refl _)
  rw [if_pos (by simp)]
  show (if n < n then _ else KasT.ret (List.toArray (List.range n))).kasWp cmp Q s
  rw [if_neg (Nat.lt_irrefl _)]
  exact hQ
end
theorem range_map (vs : List Value) (n : Nat) (h : vs.length = n) : ((List.toArray (List.range n)).toList.map fun i => vs.getD i Value.none) = vs := by
  subst h
  apply List.ext_getElem?
  intro i
  by_cases hi : i < vs.length
  · simp [hi]
  · simp [hi]

section
variable {prog : Program} {w : World} {A : Around} {E : Value → Shared → Prop} {s : Shared} {h₀ : Heap} {L : Addr} {m : Str → Option Value} {news tups : List (Addr × Obj)} {vs : List Value} {c : List (Int × Int)}
theorem ask_no (N : News h₀ L s.heap news) (hD : DatAll tups vs (c.map tup)) (hs : ∀ p ∈ tups, p ∈ news) (hr : Rising c) {i j : Nat} {C : Bool → Shared → Prop} (hj : j < i) (hi : i < c.length) (h : C false s) : kas_ask prog w A (tuples' true) vs i j C s := by
  obtain ⟨vi, ei, Di⟩ := hD.get (k := i) (by simpa using hi)
  obtain ⟨vj, ej, Dj⟩ := hD.get (k := j) (by simpa using Nat.lt_trans hj hi)
  have hlt := hr i j hi hj
  unfold kas_ask
  rw [show vs.getD i Value.none = vi by rw [List.getD_eq_getElem?_getD, ei]; rfl, show vs.getD j Value.none = vj by rw [List.getD_eq_getElem?_getD, ej]; rfl]
  simp only [List.getElem_map, tup] at Di Dj
  cases Di with
  | tuple mi ri =>
    cases Dj with
    | tuple mj rj =>
      cases ri with
      | cons a1 a2 =>
        cases rj with
        | cons b1 b2 =>
          cases a1; cases b1
          cases a2 with
          | cons a3 a4 =>
            cases b2 with
            | cons b3 b4 =>
              refine kat_lt (N.get (hs _ mi)) rfl (N.get (hs _ mj)) rfl ?_
              refine kat_cons (wpAny_eqBool_int ?_)
              rw [show ((c[i]).1 == (c[j]'(Nat.lt_trans hj hi)).1) = false by simp; omega]
              refine kat_no ?_
              refine oneLt_int ?_
              rw [decide_eq_false (by omega)]
              exact h

theorem kat_of (N : News h₀ L s.heap news) (hs : ∀ p ∈ tups, p ∈ news) : ∀ {vs : List Value} {c : List (Int × Int)}, DatAll tups vs (c.map tup) → ∃ fs : List Value, fs.length = c.length ∧ KatTups s.heap vs fs ∧ ∀ v ∈ fs, ∃ n t, v = .int n t
  | _, [], h => by cases h; exact ⟨[], rfl, KatTups.nil, fun _ q => nomatch q⟩
  | _, x :: c, .cons hd r => by
    obtain ⟨fs, h1, h2, h3⟩ := kat_of N hs r
    cases hd with
    | tuple hm q =>
      cases q with
      | cons a1 a2 =>
        cases a1 with
        | int i t =>
          refine ⟨.int x.1 t :: fs, by simp [h1], KatTups.cons (N.get (hs _ hm)) rfl rfl rfl h2, fun v hv => ?_⟩
          rcases List.mem_cons.mp hv with rfl | hv
          · exact ⟨_, _, rfl⟩
          · exact h3 v hv

theorem sort_many {B : Addr} {n : Nat} {Q : Value → Shared → Prop} (F : Fr h₀ L s.heap m) (N : News h₀ L s.heap ((B, listOf vs.toArray n) :: news)) (hB : ∀ p ∈ news, p.1 ≠ B) (hD : DatAll tups vs (c.map tup)) (hs : ∀ p ∈ tups, p ∈ news) (hr : Rising c) (h2 : 2 ≤ c.length) (h64 : c.length < 64)
    (h : ∀ h' n', Fr h₀ L h' m → News h₀ L h' ((B, listOf vs.toArray n') :: news) → Q .none { s with heap := h' }) :
    wpAny (model prog w) A (call (.builtin "list.sort") [.ref B]) Q E s := by
  have hlen : vs.length = c.length := by rw [hD.length, List.length_map]
  refine kat_lsort (its := vs.toArray) (vs := vs) F N (UpdF.head hB) rfl (by omega) (by omega) fun e1 h' F' N' => ?_
  have hs' : ∀ p ∈ tups, p ∈ (B, seqObj "list" #[] e1) :: news := fun p hp => .tail _ (hs p hp)
  obtain ⟨fs, f1, f2, f3⟩ := kat_of (s := { s with heap := h' }) N' hs' hD
  refine kat_kind (T := .type "int") f2 (by omega) (fun v hv => ?_) rfl ?_
  · obtain ⟨k, t, rfl⟩ := f3 v hv
    exact Looks.of_pure rfl
  · rw [hlen]
    refine asc_sort h2 (fun i j C hj hi hC => ask_no N' hD hs' hr hj hi hC) ?_
    rw [range_map vs _ hlen]
    exact KasFin.intro F' N' (UpdF.head hB) fun h'' n' F'' N'' => h h'' n' F'' N''

theorem sort_one {B : Addr} {n : Nat} {v : Value} {Q : Value → Shared → Prop} (F : Fr h₀ L s.heap m) (N : News h₀ L s.heap ((B, listOf [v].toArray n) :: news)) (hB : ∀ p ∈ news, p.1 ≠ B)
    (h : ∀ h' n', Fr h₀ L h' m → News h₀ L h' ((B, listOf [v].toArray n') :: news) → Q .none { s with heap := h' }) :
    wpAny (model prog w) A (call (.builtin "list.sort") [.ref B]) Q E s := by
  have nz := N (B, listOf [v].toArray n) (.head _)
  have N₀ : News h₀ L s.heap news := fun p hp => N p (.tail _ hp)
  have ho : s.heap.get? B = some (seqObj "list" [v].toArray n) := nz.1
  have hB0 : h₀.get? B = none := nz.2.2
  have hBL : B ≠ L := nz.2.1
  refine wpAny_call_entry slot_list_sort ⟨_, nz.1, rfl⟩ entry_list_sort ?_ (args_list_sort _)
  rw [list_sort_plain]
  have ha : B < s.heap.objs.size := Heap.lt_size ho
  refine wpAny_bind (listItems_at ho rfl ?_)
  refine wpAny_bind (listUpdate_at ho rfl ?_ (by simp [sizeLine_eq]) (Nat.zero_le _))
  obtain ⟨e1, ho1⟩ : ∃ e1, (s.heap.update B (Obj.mapSeq fun _ => #[])).get? B = some (seqObj "list" #[] e1) := ⟨_, get?_update_seq ho (fun _ => #[])⟩
  refine wpAny_bind (seqEpoch_at ho1 rfl ?_)
  refine wpAny_bind (wpAny_newTuple ?_ (by show 1 ≤ _; rw [sizeLine_eq]; omega))
  refine wpAny_bind (wpAny_newList ?_ (Nat.zero_le _))
  refine wpAny_holding ?_
  have ho6 : (((s.heap.update B (Obj.mapSeq fun _ => #[])).push (seqObj "tuple" [v].toArray 0)).push (seqObj "list" #[] 0)).get? B = some (seqObj "list" #[] e1) := by
    rw [Heap.get?_push_ne _ _ _ (by rw [size_push', Heap.size_update]; exact Nat.ne_of_lt (Nat.lt_succ_of_lt ha)), Heap.get?_push_ne _ _ _ (by rw [Heap.size_update]; exact Nat.ne_of_lt ha)]
    exact ho1
  show wpAny (model prog w) A.in1 _ _ _ { s with heap := ((s.heap.update B (Obj.mapSeq fun _ => #[])).push (seqObj "tuple" [v].toArray 0)).push (seqObj "list" #[] 0) }
  dsimp only
  have hz : ([v].toArray : Array Value).size < 2 := by simp
  rw [if_pos hz, if_pos hz]
  refine wpAny_bind (wpAny_pure ?_)
  rw [StateT.run_pure]
  refine wpAny_bind (wpAny_pure ?_)
  dsimp only
  have s1 := Heap.SameBut.update s.heap B (Obj.mapSeq fun _ => (#[] : Array Value))
  have F1 : Fr h₀ L (((s.heap.update B (Obj.mapSeq fun _ => #[])).push (seqObj "tuple" [v].toArray 0)).push (seqObj "list" #[] 0)) m := ((kas_fr F s1 hBL hB0).push _).push _
  have N1 : News h₀ L (((s.heap.update B (Obj.mapSeq fun _ => #[])).push (seqObj "tuple" [v].toArray 0)).push (seqObj "list" #[] 0)) news :=
    (kas_news N₀ s1 hB).grown fun b x e => Heap.get?_push_of_some _ (Heap.get?_push_of_some _ e)
  refine wpAny_bind (seqEpoch_at ho6 rfl ?_)
  have s2 := Heap.SameBut.update (((s.heap.update B (Obj.mapSeq fun _ => #[])).push (seqObj "tuple" [v].toArray 0)).push (seqObj "list" #[] 0)) B (Obj.mapSeq fun _ => ([v].toArray : Array Value))
  obtain ⟨c2, hc2⟩ : ∃ c2, ((((s.heap.update B (Obj.mapSeq fun _ => #[])).push (seqObj "tuple" [v].toArray 0)).push (seqObj "list" #[] 0)).update B (Obj.mapSeq fun _ => ([v].toArray : Array Value))).get? B = some (seqObj "list" [v].toArray c2) := ⟨_, get?_update_seq ho6 fun _ => [v].toArray⟩
  have hout : (arrOf (SortSt.mk' general' ([v].toArray.zip [v].toArray) #[] 7 none)).map (·.2) = [v].toArray := by
    show (([v].toArray.zip [v].toArray).map (·.2)) = [v].toArray
    simp
  rw [hout]
  refine wpAny_bind (listUpdate_at ho6 rfl ?_ (Nat.zero_le _) (by simp [sizeLine_eq]))
  simp only [bne_self_eq_false, Bool.false_eq_true, if_false]
  refine wpAny_pure ⟨_, rfl, ?_⟩
  refine h _ c2 (kas_fr F1 s2 hBL hB0) ?_
  intro p hp
  rcases List.mem_cons.mp hp with rfl | hp
  · exact ⟨hc2, hBL, hB0⟩
  · have := kas_news N1 s2 hB
    exact this p hp
end
end Mine

namespace Mine
theorem flat_len : ∀ {kvs : List (Int × Value)} {c : List (Int × Int)}, FlatPairs PyData.int kvs (kdfD c) → kvs.length = c.length
  | [], [], _ => rfl
  | [], (_, _) :: _, h => nomatch h
  | _ :: _, [], h => nomatch h
  | _ :: kvs, (_, _) :: c, h => by
    have h' : FlatPairs PyData.int (_ :: kvs) ((PyData.int _, PyData.int _) :: kdfD c) := h
    cases h' with
    | cons _ r => simp [flat_len r]
section
variable {prog : Program} {w : World} {h : Heap}
theorem tups_of : ∀ {as : List Addr} {kvs : List (Int × Value)} {c : List (Int × Int)}, as.length = kvs.length → FlatPairs PyData.int kvs (kdfD c) →
    (∀ (j : Nat) (a : Addr), as[j]? = some a → ∃ key k x, kvs[j]? = some (k, x) ∧ (intKind prog w).is k key = true ∧ h.get? a = some { cls := .type "tuple", data := .seq #[key, x] }) →
    ∃ tups : List (Addr × Obj), DatAll tups (as.map Value.ref) (c.map tup) ∧ ∀ p ∈ tups, p.1 ∈ as ∧ h.get? p.1 = some p.2
  | [], [], [], _, _, _ => ⟨[], .nil, fun _ q => nomatch q⟩
  | [], [], (_, _) :: _, _, h, _ => nomatch h
  | [], _ :: _, _, hl, _, _ => by simp at hl
  | _ :: _, [], _, hl, _, _ => by simp at hl
  | _ :: _, _ :: _, [], _, h, _ => nomatch h
  | a :: as, (k₀, v₀) :: kvs, (i, n) :: c, hl, hf, hp => by
    have hf' : FlatPairs PyData.int ((k₀, v₀) :: kvs) ((PyData.int i, PyData.int n) :: kdfD c) := hf
    cases hf' with
    | cons hv r =>
      obtain ⟨tups, t1, t2⟩ := tups_of (as := as) (kvs := kvs) (c := c) (by simpa using hl) r fun j a' ha => by
        obtain ⟨key, k, x, e1, e2, e3⟩ := hp (j + 1) a' (by simpa using ha)
        exact ⟨key, k, x, by simpa using e1, e2, e3⟩
      obtain ⟨key, k, x, e1, e2, e3⟩ := hp 0 a rfl
      have e1' := Option.some.inj (show some _ = some (k, x) from e1)
      obtain ⟨rfl, rfl⟩ := Prod.mk.inj e1'
      obtain ⟨t, rfl⟩ := Value.isInt_shape (show Value.isInt _ key = true from e2)
      obtain ⟨t', rfl⟩ := Flat.int_inv hv
      refine ⟨(a, { cls := .type "tuple", data := .seq [Value.int k₀ t, Value.int n t'].toArray }) :: tups, ?_, ?_⟩
      · refine .cons (.tuple (.head _) (.cons (.int _ _) (.cons (.int _ _) .nil))) (t1.mono fun p hp => .tail _ hp)
      · intro p hp
        rcases List.mem_cons.mp hp with rfl | hp
        · exact ⟨.head _, e3⟩
        · exact ⟨.tail _ (t2 p hp).1, (t2 p hp).2⟩
end
section
variable {prog : Program} {w : World} {A : Around} {E : Value → Shared → Prop} {s : Shared} {h₀ : Heap} {L v d : Addr} {m : Str → Option Value} {news : List (Addr × Obj)} {od : Obj} {kvs : List (Int × Value)} {c : List (Int × Int)} {Q : Value → Shared → Prop}
theorem sorted_items (hh : A.handled = none) (F : Fr h₀ L s.heap m) (N : News h₀ L s.heap news) (hvw : (v, { cls := .type "dict_items", data := .fields #[.ref d] }) ∈ news) (hmd : (d, od) ∈ news) (hod : od.IsDictOf (intKind prog w) kvs)
    (hf : FlatPairs PyData.int kvs (kdfD c)) (hr : Rising c) (h1 : 1 ≤ c.length) (h64 : c.length < 64)
    (h : ∀ D n tups us h' tk, Fr h₀ L h' m → News h₀ L h' ((D, listOf us.toArray n) :: (tups ++ news)) → DatAll tups us (c.map tup) → Q (.ref D) { s with heap := h', toks := tk }) :
    wpAny (model prog w) A (call (.builtin "sorted") [.ref v]) Q E s := by
  have hlen := flat_len hf
  obtain ⟨ep, hat⟩ := KdkAt.of hod
  refine call_function_entry kind_sorted plain_sorted entry_sorted (args_sorted1 _) ?_
  unfold Builtin.«sorted»
  refine wpAny_bind (m := checkCount "sorted" 1 1 _) (wpAny_pure ?_)
  refine wpAny_bind (kdx_collect (A := A.in1) (knd := intKind prog w) (kvs := kvs) (ep := ep) hh ⟨_, (N _ hvw).1, rfl, rfl⟩ (hat.dictAt (N _ hmd).1) (kdl_size (by omega)) fun h' tk as hk hl hG => ?_)
  obtain ⟨tups, t1, t2⟩ := tups_of hl hf hG.pairs
  refine wpAny_bind (wpAny_newList ?_ (by rw [List.length_map, hl]; exact kdl_size (by omega)))
  have N' : News h₀ L h' (tups ++ news) := fun q hq => by
    rcases List.mem_append.mp hq with hq | hq
    · exact ⟨(t2 q hq).2, kdx_fresh F (Nat.le_of_lt (hG.above _ (t2 q hq).1))⟩
    · exact ⟨hk _ _ (N q hq).1, (N q hq).2⟩
  have F2 : Fr h₀ L (h'.push { cls := .type "list", data := .seq (as.map Value.ref).toArray }) m := (F.keeps hk).push _
  have N2 : News h₀ L (h'.push { cls := .type "list", data := .seq (as.map Value.ref).toArray }) ((h'.objs.size, listOf (as.map Value.ref).toArray 0) :: (tups ++ news)) := News.push (F.keeps hk) N' _ rfl
  have hB : ∀ p ∈ tups ++ news, p.1 ≠ h'.objs.size := fun p hp => Nat.ne_of_lt (Heap.lt_size (N' p hp).1)
  have hlen2 : (as.map Value.ref).length = c.length := by rw [List.length_map, hl, hlen]
  have key : wpAny (model prog w) A.in1 (call (.builtin "list.sort") [.ref h'.objs.size]) (fun _ s' => Q (.ref h'.objs.size) s') E { s with heap := h'.push { cls := .type "list", data := .seq (as.map Value.ref).toArray }, toks := tk } := by
    by_cases h2 : 2 ≤ c.length
    · exact sort_many (s := { s with heap := _, toks := tk }) F2 N2 hB t1 (fun p hp => List.mem_append_left _ hp) hr h2 h64 fun h'' n' F'' N'' => h _ _ tups _ h'' tk F'' N'' t1
    · match hm : as.map Value.ref, hlen2 with
      | [], e => simp at e; omega
      | _ :: _ :: _, e => simp at e; omega
      | [v], _ =>
        rw [hm] at F2 N2 t1
        exact sort_one (s := { s with heap := _, toks := tk }) F2 N2 hB fun h'' n' F'' N'' => h _ _ tups _ h'' tk F'' N'' t1
  refine wpAny_bind (wpAny_holding (wpAny_mono key (fun _ s' x => ?_) fun _ _ e => e))
  exact wpAny_pure ⟨_, rfl, x⟩
end
end Mine

namespace Mine
def aheads (B M O : Int) : List Int := rangeKs (B.fdiv O) (((B + M - 1).fdiv O + 1 - B.fdiv O).toNat)
def parts (M : Int) : List Int := rangeKs 0 ((M - 0).toNat)
def okAt (O M P : Int) : Bool :=
  let due := dueOf (P * M) O (parts M)
  decide (wOf (P * M) M O (aheads (P * M) M O) = due) && decide (due.Pairwise fun a b => a.1 < b.1) && decide (1 ≤ due.length) && decide (due.length < 64)
def okRow (O lo : Nat) : Bool := (List.range 3).all fun j => (List.range 12).all fun k => okAt ((O : Nat) : Int) ((lo + j + 1 : Nat) : Int) ((k : Nat) : Int)
theorem row1at0 : okRow 1 0 = true := by decide +kernel
theorem row1at3 : okRow 1 3 = true := by decide +kernel
theorem row1at6 : okRow 1 6 = true := by decide +kernel
theorem row2at0 : okRow 2 0 = true := by decide +kernel
theorem row2at3 : okRow 2 3 = true := by decide +kernel
theorem row2at6 : okRow 2 6 = true := by decide +kernel
theorem row3at0 : okRow 3 0 = true := by decide +kernel
theorem row3at3 : okRow 3 3 = true := by decide +kernel
theorem row3at6 : okRow 3 6 = true := by decide +kernel
theorem row4at0 : okRow 4 0 = true := by decide +kernel
theorem row4at3 : okRow 4 3 = true := by decide +kernel
theorem row4at6 : okRow 4 6 = true := by decide +kernel
theorem row5at0 : okRow 5 0 = true := by decide +kernel
theorem row5at3 : okRow 5 3 = true := by decide +kernel
theorem row5at6 : okRow 5 6 = true := by decide +kernel
theorem row6at0 : okRow 6 0 = true := by decide +kernel
theorem row6at3 : okRow 6 3 = true := by decide +kernel
theorem row6at6 : okRow 6 6 = true := by decide +kernel
theorem row7at0 : okRow 7 0 = true := by decide +kernel
theorem row7at3 : okRow 7 3 = true := by decide +kernel
theorem row7at6 : okRow 7 6 = true := by decide +kernel
theorem row8at0 : okRow 8 0 = true := by decide +kernel
theorem row8at3 : okRow 8 3 = true := by decide +kernel
theorem row8at6 : okRow 8 6 = true := by decide +kernel
theorem row9at0 : okRow 9 0 = true := by decide +kernel
theorem row9at3 : okRow 9 3 = true := by decide +kernel
theorem row9at6 : okRow 9 6 = true := by decide +kernel
theorem ok_of_row {o lo : Nat} {O M P : Int} (hr : okRow o lo = true) (ho : O = (o : Int)) (hM : (lo : Int) + 1 ≤ M) (hM' : M ≤ (lo : Int) + 3) (hP : 0 ≤ P) (hP' : P ≤ 11) : okAt O M P = true := by
  subst ho
  have h1 := List.all_eq_true.mp hr (M - lo - 1).toNat (by rw [List.mem_range]; omega)
  have h2 := List.all_eq_true.mp h1 P.toNat (by rw [List.mem_range]; omega)
  have e1 : ((lo + (M - lo - 1).toNat + 1 : Nat) : Int) = M := by omega
  have e2 : ((P.toNat : Nat) : Int) = P := by omega
  rw [e1, e2] at h2
  exact h2
theorem ok_rows {o : Nat} {O M P : Int} (h0 : okRow o 0 = true) (h3 : okRow o 3 = true) (h6 : okRow o 6 = true) (ho : O = (o : Int)) (hM : 1 ≤ M) (hM' : M ≤ 9) (hP : 0 ≤ P) (hP' : P ≤ 11) : okAt O M P = true := by
  have h : M ≤ 3 ∨ (4 ≤ M ∧ M ≤ 6) ∨ 7 ≤ M := by omega
  rcases h with h | h | h
  · exact ok_of_row h0 ho (by omega) (by omega) hP hP'
  · exact ok_of_row h3 ho (by omega) (by omega) hP hP'
  · exact ok_of_row h6 ho (by omega) (by omega) hP hP'
theorem ok_all {O M P : Int} (hO : 1 ≤ O) (hO' : O ≤ 9) (hM : 1 ≤ M) (hM' : M ≤ 9) (hP : 0 ≤ P) (hP' : P ≤ 11) : okAt O M P = true := by
  have h : O = 1 ∨ O = 2 ∨ O = 3 ∨ O = 4 ∨ O = 5 ∨ O = 6 ∨ O = 7 ∨ O = 8 ∨ O = 9 := by omega
  rcases h with h | h | h | h | h | h | h | h | h
  · exact ok_rows row1at0 row1at3 row1at6 h hM hM' hP hP'
  · exact ok_rows row2at0 row2at3 row2at6 h hM hM' hP hP'
  · exact ok_rows row3at0 row3at3 row3at6 h hM hM' hP hP'
  · exact ok_rows row4at0 row4at3 row4at6 h hM hM' hP hP'
  · exact ok_rows row5at0 row5at3 row5at6 h hM hM' hP hP'
  · exact ok_rows row6at0 row6at3 row6at6 h hM hM' hP hP'
  · exact ok_rows row7at0 row7at3 row7at6 h hM hM' hP hP'
  · exact ok_rows row8at0 row8at3 row8at6 h hM hM' hP hP'
  · exact ok_rows row9at0 row9at3 row9at6 h hM hM' hP hP'
theorem plain_law {O M P : Int} (hO : 1 ≤ O) (hO' : O ≤ 9) (hM : 1 ≤ M) (hM' : M ≤ 9) (hP : 0 ≤ P) (hP' : P ≤ 11) :
    wOf (P * M) M O (aheads (P * M) M O) = dueOf (P * M) O (parts M) ∧ Rising (dueOf (P * M) O (parts M)) ∧ 1 ≤ (dueOf (P * M) O (parts M)).length ∧ (dueOf (P * M) O (parts M)).length < 64 := by
  have h := ok_all hO hO' hM hM' hP hP'
  unfold okAt at h
  simp only [Bool.and_eq_true, decide_eq_true_eq] at h
  obtain ⟨⟨⟨h1, h2⟩, h3⟩, h4⟩ := h
  exact ⟨h1, fun i j hi hj => (List.pairwise_iff_getElem.mp h2) j i (Nat.lt_trans hj hi) hi hj, h3, h4⟩
end Mine

namespace Mine
theorem below3 {d l f : Addr} {o x : Obj} {own : List (Addr × Obj)} (h : d < f ∧ l < f ∧ AllLt f own) : ∀ p ∈ (d, o) :: (l, x) :: own, p.1 < f := by
  intro p hp
  rcases List.mem_cons.mp hp with rfl | hp
  · exact h.1
  · rcases List.mem_cons.mp hp with rfl | hp
    · exact h.2.1
    · exact kst_ltOf h.2.2 p hp
theorem found_apart {f : Addr} {cst tl own : List (Addr × Obj)} (hf : ∀ p ∈ cst, p.1 < f) (h : OwnOff (tl ++ own) (f :: cst.map (·.1))) : ∀ p ∈ cst ++ (tl ++ own), p.1 ≠ f := by
  intro p hp
  rcases List.mem_append.mp hp with hp | hp
  · exact Nat.ne_of_lt (hf p hp)
  · exact h p hp f (.head _)
theorem tup_above {f a : Addr} {x : Obj} {r : List (Addr × Obj)} (h : f < a ∧ AllLt a r) : ∀ p ∈ (f, x) :: r, p.1 < a := by
  intro p hp
  rcases List.mem_cons.mp hp with rfl | hp
  · exact h.1
  · exact kst_ltOf h.2 p hp
theorem fdiv_bnd {x o : Int} (h0 : 0 ≤ x) (ho : 1 ≤ o) : 0 ≤ x.fdiv o ∧ x.fdiv o ≤ x := by
  rw [Int.fdiv_eq_ediv_of_nonneg x (by omega)]
  exact ⟨Int.ediv_nonneg h0 (by omega), Int.ediv_le_self o h0⟩
theorem mul_bnd {p m : Int} (h0 : 0 ≤ p) (h1 : p ≤ 11) (m0 : 1 ≤ m) (m1 : m ≤ 9) : 0 ≤ p * m ∧ p * m ≤ 99 := by
  refine ⟨Int.mul_nonneg h0 (by omega), ?_⟩
  have := Int.mul_le_mul h1 m1 (by omega) (by decide)
  omega
theorem range_small {B M O : Int} (hB : 0 ≤ B ∧ B ≤ 99) (m0 : 1 ≤ M) (m1 : M ≤ 9) (ho : 1 ≤ O) : Builtin.Range.small (B.fdiv O) ((B + M - 1).fdiv O + 1) 1 = true := by
  have h1 := fdiv_bnd hB.1 ho
  have h2 := fdiv_bnd (x := B + M - 1) (by omega) ho
  exact small_one (by omega) (by omega) (by omega) (by omega)
theorem aheads_len {B M O : Int} (hB : 0 ≤ B ∧ B ≤ 99) (m0 : 1 ≤ M) (m1 : M ≤ 9) (ho : 1 ≤ O) : ((B + M - 1).fdiv O + 1 - B.fdiv O).toNat ≤ 200 := by
  have h1 := fdiv_bnd hB.1 ho
  have h2 := fdiv_bnd (x := B + M - 1) (by omega) ho
  omega
theorem wOf_len (B M O : Int) (ks : List Int) : (wOf B M O ks).length ≤ ks.length := by
  unfold wOf
  rw [List.length_map]
  exact List.length_filter_le _ _
theorem vs_len {tups : List (Addr × Obj)} {vs : List Value} {ds : List Dat} {B M O : Int} {ks : List Int} (hD : DatAll tups vs ds) (hds : ds = (wOf B M O ks).map tup) : vs.length ≤ ks.length := by
  have h1 := hD.length
  rw [hds, List.length_map] at h1
  have := wOf_len B M O ks
  omega
theorem same2 {m₀ u : Str → Option Value} {v : Option Value} {x y : Str} {v' : Option Value} (z : Str) (h1 : z ≠ x) (h2 : [y].contains z = false) : (if z = y then v else if z = x then v' else if [y].contains z = true then u z else m₀ z) = m₀ z := by
  have h3 : z ≠ y := by intro e; subst e; simp at h2
  rw [if_neg h3, if_neg h1, if_neg (by rw [h2]; exact Bool.false_ne_true)]
theorem same1 {m₀ u : Str → Option Value} {x y : Str} {v' : Option Value} (z : Str) (h1 : z ≠ x) (h2 : [y].contains z = false) : (if z = x then v' else if [y].contains z = true then u z else m₀ z) = m₀ z := by
  rw [if_neg h1, if_neg (by rw [h2]; exact Bool.false_ne_true)]
end Mine
namespace Mine
theorem ne_of_c {z y : Str} (h : [y].contains z = false) : z ≠ y := by intro e; subst e; simp at h
end Mine

namespace Mine
theorem ok_tups (cs : List (Int × Int)) : ∀ d ∈ cs.map tup, kqdOk 8 d = true := by
  intro d hd
  obtain ⟨x, _, rfl⟩ := List.mem_map.mp hd
  rfl
section
variable {h₀ : Heap} {x : Str}
theorem turn_end {L l : Addr} {m₀ m' : Str → Option Value} {own news' : List (Addr × Obj)} {a b : Int} {ta tb : Tok} {stored : List Str} {s₁ : Shared} {h' : Heap} {tk : Nat}
    (F : Fr h₀ L h' m') (N : News h₀ L h' news') (hl : (l, listOf #[.int a ta, .int b tb] 0) ∈ news') (ho : ∀ p ∈ own, p ∈ news') (b0 : 0 ≤ b) (b1 : b < 70000)
    (hm : ∀ z, z ≠ x → stored.contains z = false → m' z = m₀ z) : InvEndN h₀ L (TurnJ m₀ x stored l) own [l] s₁ { s₁ with heap := h', toks := tk } :=
  InvEndN.intro F N ⟨a, ta, b, tb, rfl, b0, b1, hm⟩ rfl (fun p hp => by rw [List.mem_singleton.mp hp]; exact hl) ho
end
section
variable {prog : Program} {w : World} {A : Around} {E : Value → Shared → Prop} {s : Shared} {h₀ : Heap} {L D D2 : Addr} {news : List (Addr × Obj)} {vs us : List Value} {n₁ n₂ : List (Addr × Obj)} {ds : List Dat} {cs es : List (Int × Int)} {k1 k2 : Nat} {Q : Value → Shared → Prop}
theorem same_lists (N : News h₀ L s.heap news) (ma : (D, listOf vs.toArray k1) ∈ news) (Da : DatAll n₁ vs ds) (sa : ∀ p ∈ n₁, p ∈ news) (mb : (D2, listOf us.toArray k2) ∈ news) (Db : DatAll n₂ us (es.map tup)) (sb : ∀ p ∈ n₂, p ∈ news)
    (e1 : ds = cs.map tup) (e2 : cs = es) (hu : A.units + 64 < cLine) (h : Q (.bool false) s) : wpAny (model prog w) A (compareOp .NotEq (.ref D) (.ref D2)) Q E s := by
  subst e1 e2
  refine kqd_ne N ma rfl rfl Da sa mb rfl rfl Db sb (ok_tups _) (ok_tups _) hu ?_
  simpa using h
end
theorem drawn_off {m : Str → Option Value} {d : Addr} {ov mv pv : Int} {to tm tp : Tok} {z : Str} (h1 : z ≠ Str.ofString "due") (h2 : z ≠ Str.ofString "place") (h3 : z ≠ Str.ofString "most") (h4 : z ≠ Str.ofString "own") : drawn m d ov to mv tm pv tp z = m z := by
  unfold drawn
  rw [if_neg h1, if_neg h2, if_neg h3, if_neg h4]
theorem turn_same {m₀ u u₂ u₃ : Str → Option Value} {d : Addr} {ov mv pv : Int} {to tm tp : Tok} {vt : Option Value} (z : Str) (h1 : z ≠ Str.ofString "turn") (h2 : [Str.ofString "own", Str.ofString "most", Str.ofString "place", Str.ofString "due", Str.ofString "part", Str.ofString "ahead"].contains z = false) :
    (if z = Str.ofString "part" then u₂ z else if [Str.ofString "ahead"].contains z = true then u₃ z else drawn (fun y => if y = Str.ofString "turn" then vt else if [Str.ofString "own", Str.ofString "most", Str.ofString "place", Str.ofString "due", Str.ofString "part", Str.ofString "ahead"].contains y = true then u y else m₀ y) d ov to mv tm pv tp z) = m₀ z := by
  have h3 := h2
  simp only [List.contains_cons, List.contains_nil, Bool.or_false, Bool.or_eq_false_iff, beq_eq_false_iff_ne, ne_eq] at h3
  obtain ⟨a1, a2, a3, a4, a5, a6⟩ := h3
  rw [if_neg a5, if_neg (by simp [a6]), drawn_off a4 a3 a2 a1]
  show (if z = _ then _ else if _ = true then _ else _) = _
  rw [if_neg h1, if_neg (by rw [h2]; exact Bool.false_ne_true)]
end Mine

local macro_rules | `(tactic| k_steps) => `(tactic| repeat' ((fail_if_success (with_reducible show wpAny _ _ (pyIter (Value.ref _)) (fun it s₂ => LoopAtV _ _ _ _ _ _ _ _ _ it s₂) _ _)); (fail_if_success (with_reducible show wpAny _ _ (call (Value.builtin "list.append") _) _ _ _)); (fail_if_success (with_reducible show wpAny _ _ (call (Value.builtin "sorted") _) _ _ _)); (fail_if_success (with_reducible show wpAny _ _ (pyIter (Value.ref _)) (CompPost _ _ _ _ _ _ _ _ _) _ _)); first | (k_unfold; (try dsimp only)) | (k_end; kc_close) | walk1 | (dsimp only; walk1) | (leave1; walk_say "STEP leave1"; (try dsimp only)) | fail "no step"))
theorem PySem.Challenge.cw_xm0790_01_holds : PySem.Challenge.rw_xm0790_01.Holds := by
  w_on; o_law; k_head; (case hw => w_witness2); w_strict skip
  k_go0
  dsimp only
  rename Fr _ _ _ _ => F0
  refine Mine.mid_rope F0 ?_ (fun h' tk l a ta b tb F' N' hb0 hb1 => ?_)
  · all_goals try k_fold
    k_steps
    all_goals (rename Fr _ _ _ _ => fX)
    all_goals (rename News _ _ _ _ => nX)
    all_goals exact Mine.rope_end fX nX
  · all_goals try k_fold
    k_with "exec For Name Call cons nil" => kpr_for
    k_with "eval Dict nil nil" => (
      (rename Fr _ _ _ _ => fD); (rename News _ _ _ _ => nD); (dsimp only at fD nD);
      (refine newDict_K fD nD (TopRead.nolimit (by k_asm)) ?_; intro d' h' o' F' N' l1 lo' hs' fs' hi' fi'; clear fD nD))
    k_steps
    rename Fr _ _ _ _ => fL
    rename News _ _ _ _ => nL
    rename IsRange _ _ _ _ _ _ _ _ => rL
    with_unfolding_all refine' Mine.turn_iter [Str.ofString "own", Str.ofString "most", Str.ofString "place", Str.ofString "due", Str.ofString "part", Str.ofString "ahead"] (by rfl) rL fL nL hb0 hb1 (fun a ta b tb k t u h tk own hoff h0 h1 F' N' => ?_) (fun a ta b tb u h tk F' N' => ?_)
    · clear fL nL rL
      dsimp only
      refine Mine.mid_draw F' N' ?_ (fun h' tk a ta b tb d o ov to mv tm pv tp Fd Nd Dd => ?_)
      · k_fold
        k_steps
        all_goals (rename Fr _ _ _ _ => fX)
        all_goals (rename News _ _ _ _ => nX)
        all_goals exact Mine.draw_end fX nX hi' lo' l1 (by first | exact ⟨h0, h1⟩ | exact Mine.fmB _)
      · clear F' N'
        obtain ⟨hdict, hlo, hll, hlw, hb0, hb1, ho0, ho1, hm0, hm1, hp0, hp1⟩ := Dd
        dsimp only [Mine.drawn] at Fd
        k_fold
        k_steps
        rename Fr _ _ _ _ => fP
        rename News _ _ _ _ => nP
        rename IsRange _ _ _ _ _ _ _ _ => rP
        with_unfolding_all refine' Mine.part_iter (pv * mv) ov [Str.ofString "ahead"] (by rfl) rP (small_one (by omega) (by omega) (by omega) (by omega)) (rangeSize_nat _ _) fP nP hdict (fun o kvs pre k t u h tk own' hk hlt hoff' hd hf F' N' => ?_) (fun o kvs u h tk hd hf F' N' => ?_)
        · clear fP nP rP
          have hlen := Mine.due_len (pv * mv) ov pre
          have hlen2 : (Mine.dueOf (pv * mv) ov pre).length ≤ 1000 := by omega
          try k_fold
          k_steps
          rename Fr _ _ _ _ => fX
          rename News _ _ _ _ => nX
          refine kdf_setItem fX nX (UpdF.head ?_) hd hf (by omega) (fun h' o' kvs' F' N' hd' hf' => ?_)
          · intro p hp
            rcases List.mem_cons.mp hp with rfl | hp
            · exact Nat.ne_of_lt hll
            · rcases List.mem_append.mp hp with hp | hp
              · exact Nat.ne_of_lt (hlw p hp)
              · exact hoff' p hp d (List.Mem.head _)
          · clear fX nX
            k_steps
            exact Mine.part_end F' N' hd' hf' (by intro z h1 h2; show (if z = _ then _ else if z = _ then _ else if _ = true then _ else _) = _; rw [if_neg (Mine.ne_of_c h2), if_neg h1, if_neg (by rw [h2]; exact Bool.false_ne_true)])
        · clear fP nP rP
          try k_fold
          k_steps
          rename Fr _ _ _ _ => fW
          rename News _ _ _ _ => nW
          rename IsRange _ _ _ _ _ _ _ _ => rW
          with_reducible rename (@LT.lt Nat _ _ _ ∧ @LT.lt Nat _ _ _ ∧ AllLt _ _) => hq
          have hmb := Mine.mul_bnd hp0 hp1 hm0 hm1
          have hal := Mine.aheads_len hmb hm0 hm1 ho0
          with_unfolding_all refine' Mine.weights_iter (pv * mv) mv ov [Str.ofString "weight"] (by rfl) rW (Mine.range_small hmb hm0 hm1 ho0) (rangeSize_nat _ _) fW nW (fun vs ds cn tl pre k t u h tk own' hk hlt hsep hoff2 hD hds F' N' => ?_) (fun vs ds cn tl u h tk hoff2 hD hds F' N' => ?_)
          · clear fW nW rW
            have hvl := Mine.vs_len hD hds
            have hvz : vs.toArray.size ≤ 1000 := by rw [List.size_toArray]; omega
            try k_fold
            k_steps
            all_goals (rename Fr _ _ _ _ => fX)
            all_goals (rename News _ _ _ _ => nX)
            all_goals first
              | exact Mine.weights_no hsep fX nX hD hds rfl (by simp only [Mine.ovl]; (repeat' split) <;> omega) (by intro z h1 h2; show (if z = _ then _ else if z = _ then _ else if _ = true then _ else _) = _; rw [if_neg (Mine.ne_of_c h2), if_neg h1, if_neg (by rw [h2]; exact Bool.false_ne_true)])
              | (with_reducible rename (@LT.lt Nat _ _ _ ∧ AllLt _ _) => hA
                 refine append_K fX nX (Upd.tail (Nat.ne_of_gt hA.1) (Upd.head (Mine.found_apart (Mine.below3 hq) hoff2))) (fun h' F' N' => ?_) (by rw [sizeLine_eq]; omega)
                 k_steps
                 exact Mine.weights_yes hsep F' N' (by simp) hD hds (by simp only [Mine.ovl]; (repeat' split) <;> omega) (by omega) (by intro z h1 h2; show (if z = _ then _ else if z = _ then _ else if _ = true then _ else _) = _; rw [if_neg (Mine.ne_of_c h2), if_neg h1, if_neg (by rw [h2]; exact Bool.false_ne_true)]) (Mine.tup_above hA))
          · clear fW nW rW
            have hvl := Mine.vs_len hD hds
            rw [rangeKs_length] at hvl
            try k_fold
            k_steps
            rename Fr _ _ _ _ => fC
            rename News _ _ _ _ => nC
            dsimp only at fC nC
            refine Mine.comp_tuple (by rfl) fC nC (List.Mem.head _) (hds ▸ hD) (fun p hp => List.Mem.tail _ hp) (by omega) (by k_asm) (by k_asm) (by k_is) (by boot_fast) (by decide) rfl rfl (fun _ => rfl) (fun _ => rfl) (by decide) (fun _ => rfl) (by decide) (fun _ => rfl) (fun D n h' tk F' N' hDn => ?_)
            clear fC nC
            k_steps
            rename Fr _ _ _ _ => fS
            rename News _ _ _ _ => nS
            have hP := Mine.plain_law ho0 ho1 hm0 hm1 hp0 hp1
            refine Mine.sorted_items (by rfl) fS nS (List.Mem.head _) (List.Mem.tail _ (List.Mem.tail _ (List.Mem.tail _ (List.mem_append_left _ (List.Mem.head _))))) hd hf hP.2.1 hP.2.2.1 hP.2.2.2 (fun D2 n2 tups us h' tk F' N' hU => ?_)
            clear fS nS
            refine Mine.same_lists N' (List.Mem.tail _ (List.mem_append_right _ (List.Mem.tail _ (List.Mem.head _)))) hD (fun p hp => List.Mem.tail _ (List.mem_append_right _ (List.Mem.tail _ (List.Mem.tail _ (List.Mem.tail _ hp))))) (List.Mem.head _) hU (fun p hp => List.Mem.tail _ (List.mem_append_left _ hp)) hds hP.1 (by ke_room) ?_
            k_steps
            refine Mine.turn_end F' N' (List.Mem.tail _ (List.mem_append_right _ (List.Mem.tail _ (List.Mem.tail _ (List.Mem.tail _ (List.mem_append_left _ (List.Mem.tail _ (List.Mem.head _)))))))) (fun p hp => List.Mem.tail _ (List.mem_append_right _ (List.Mem.tail _ (List.Mem.tail _ (List.Mem.tail _ (List.mem_append_left _ (List.Mem.tail _ (List.Mem.tail _ hp)))))))) hb0 hb1 ?_
            intro z h1 h2
            have h3 := h2
            simp only [List.contains_cons, List.contains_nil, Bool.or_false, Bool.or_eq_false_iff, beq_eq_false_iff_ne, ne_eq] at h3
            obtain ⟨a1, a2, a3, a4, a5, a6⟩ := h3
            show (if z = _ then _ else if _ = true then _ else Mine.drawn _ _ _ _ _ _ _ _ z) = _
            rw [if_neg a5, if_neg (by simp [a6]), Mine.drawn_off a4 a3 a2 a1]
            show (if z = _ then _ else if _ = true then _ else _) = _
            rw [if_neg h1, if_neg (by rw [h2]; exact Bool.false_ne_true)]
    · clear fL nL rL
      try k_fold
      k_steps

