import PyProof.Rows.All
import Wide.All
import OpenK.AllK
import Wide.FinOn
import PySem.Challenge.RW_xm0805_01
open PySem PySem.W PyProof.Rows PySem.Calls
set_option Elab.async false
set_option maxRecDepth 100000
set_option maxHeartbeats 0
set_option rowWalk.seconds 0
open_top hd for PySem.Challenge.rw_xm0805_01

-- part B0
section
namespace Mine
abbrev Led := List (Addr × Obj)
/-- the rows of a grid, each a list of ints of the ledger -/
inductive RowsIn (news : Led) : List Value → List (List Int) → Prop
  | nil : RowsIn news [] []
  | cons {a : Addr} {us : List Value} {n : Nat} {r : List Int} {vs : List Value} {rows : List (List Int)} : (a, listOf us.toArray n) ∈ news → IntsAre us r → RowsIn news vs rows → RowsIn news (.ref a :: vs) (r :: rows)
theorem RowsIn.mono {news news' : Led} (hs : ∀ p ∈ news, p ∈ news') : ∀ {vs : List Value} {rows : List (List Int)}, RowsIn news vs rows → RowsIn news' vs rows
  | _, _, .nil => .nil
  | _, _, .cons h i r => .cons (hs _ h) i (RowsIn.mono hs r)
theorem RowsIn.length {news : Led} : ∀ {vs : List Value} {rows : List (List Int)}, RowsIn news vs rows → vs.length = rows.length
  | _, _, .nil => rfl
  | _, _, .cons _ _ r => by simp [r.length]
theorem RowsIn.append {news : Led} : ∀ {vs ws : List Value} {rows qows : List (List Int)}, RowsIn news vs rows → RowsIn news ws qows → RowsIn news (vs ++ ws) (rows ++ qows)
  | _, _, _, _, .nil, k => k
  | _, _, _, _, .cons h i r, k => .cons h i (r.append k)
theorem RowsIn.get {news : Led} : ∀ {vs : List Value} {rows : List (List Int)}, RowsIn news vs rows → ∀ (i : Nat) (v : Value), vs[i]? = some v → ∃ a us n r, v = .ref a ∧ rows[i]? = some r ∧ (a, listOf us.toArray n) ∈ news ∧ IntsAre us r
  | _, _, .nil, _, _, e => by simp at e
  | _, _, .cons h i _, 0, _, e => by simp at e; exact ⟨_, _, _, _, e.symm, rfl, h, i⟩
  | _, _, .cons _ _ r, k + 1, v, e => by simpa using r.get k v (by simpa using e)
theorem RowsIn.same {news : Led} {a : Addr} {us : List Value} {n : Nat} {r : List Int} (h : (a, listOf us.toArray n) ∈ news) (i : IntsAre us r) : ∀ k : Nat, RowsIn news (List.replicate k (.ref a)) (List.replicate k r)
  | 0 => .nil
  | k + 1 => by rw [List.replicate_succ, List.replicate_succ]; exact .cons h i (RowsIn.same h i k)
theorem ints_same (v : Int) (t : Tok) : ∀ k : Nat, IntsAre (List.replicate k (.int v t)) (List.replicate k v)
  | 0 => .nil
  | k + 1 => by rw [List.replicate_succ, List.replicate_succ]; exact .cons v t (ints_same v t k)
/-- a grid: a list of such rows -/
def GridIn (news : Led) (R : Addr) (rows : List (List Int)) : Prop := ∃ (vs : List Value) (n : Nat), (R, listOf vs.toArray n) ∈ news ∧ RowsIn news vs rows
theorem GridIn.mono {news news' : Led} (hs : ∀ p ∈ news, p ∈ news') {R : Addr} {rows : List (List Int)} (h : GridIn news R rows) : GridIn news' R rows := by
  obtain ⟨vs, n, hm, hr⟩ := h
  exact ⟨vs, n, hs _ hm, hr.mono hs⟩
def intsD (r : List Int) : Dat := .list (r.map .int)
def gridD (rows : List (List Int)) : Dat := .list (rows.map intsD)
theorem datAll_ints {news : Led} : ∀ {us : List Value} {r : List Int}, IntsAre us r → DatAll news us (r.map .int)
  | _, _, .nil => .nil
  | _, _, .cons k t i => .cons (.int k t) (datAll_ints i)
theorem datAll_rows {news : Led} : ∀ {vs : List Value} {rows : List (List Int)}, RowsIn news vs rows → DatAll news vs (rows.map intsD)
  | _, _, .nil => .nil
  | _, _, .cons h i r => .cons (.list h (datAll_ints i)) (datAll_rows r)
theorem GridIn.dat {news : Led} {R : Addr} {rows : List (List Int)} (h : GridIn news R rows) : DatIn news (.ref R) (gridD rows) := by
  obtain ⟨vs, n, hm, hr⟩ := h
  exact .list hm (datAll_rows hr)
theorem ok_ints (k : Nat) (r : List Int) : kqdOk (k + 1) (intsD r) = true := by
  unfold intsD
  rw [kqdOk]
  simp only [List.all_map, List.all_eq_true]
  intro x _
  cases k <;> rfl
theorem ok_grid (k : Nat) (rows : List (List Int)) : kqdOk (k + 2) (gridD rows) = true := by
  unfold gridD
  rw [kqdOk]
  simp only [List.all_map, List.all_eq_true]
  intro x _
  exact ok_ints k x
/-- an object of the class Plane, as the ledger bears it -/
def PlaneIn (news : Led) (p : Addr) (wd ht : Int) (R : Addr) : Prop :=
  ∃ (dp : Addr) (h1 : Int) (t1 tw : Tok) (h2 : Int) (t2 th : Tok) (h3 : Int) (t3 : Tok) (n : Nat), (p, instObj 52 dp) ∈ news ∧
    (dp, dictOf [⟨h1, .str (Str.ofString "width") t1, .int wd tw⟩, ⟨h2, .str (Str.ofString "height") t2, .int ht th⟩, ⟨h3, .str (Str.ofString "rows") t3, .ref R⟩] n) ∈ news
theorem PlaneIn.mono {news news' : Led} (hs : ∀ p ∈ news, p ∈ news') {p : Addr} {wd ht : Int} {R : Addr} (h : PlaneIn news p wd ht R) : PlaneIn news' p wd ht R := by
  obtain ⟨dp, h1, t1, tw, h2, t2, th, h3, t3, n, a, b⟩ := h
  exact ⟨dp, h1, t1, tw, h2, t2, th, h3, t3, n, hs _ a, hs _ b⟩
/-- none of the new lies where one of the old lies -/
def Apart (new old : Led) : Prop := ∀ p ∈ new, ∀ q ∈ old, p.1 ≠ q.1
theorem Apart.nil {old : Led} : Apart [] old := fun _ h => nomatch h
theorem Apart.cons {q : Addr × Obj} {new old : Led} (h : ∀ p ∈ old, p.1 < q.1) (k : Apart new old) : Apart (q :: new) old := by
  intro p hp r hr
  rcases List.mem_cons.mp hp with rfl | hp
  · exact Nat.ne_of_gt (h r hr)
  · exact k p hp r hr
theorem Apart.cons' {q : Addr × Obj} {new old : Led} (h : ∀ p ∈ old, p.1 ≠ q.1) (k : Apart new old) : Apart (q :: new) old := by
  intro p hp r hr
  rcases List.mem_cons.mp hp with rfl | hp
  · exact fun e => h r hr e.symm
  · exact k p hp r hr
theorem lt_of_allLt {d : Addr} {l : Led} (h : AllLt d l) : ∀ p ∈ l, p.1 < d := ktn_ltOf h
theorem Apart.append {a b old : Led} (h : Apart a old) (k : Apart b old) : Apart (a ++ b) old := by
  intro p hp r hr
  rcases List.mem_append.mp hp with hp | hp
  · exact h p hp r hr
  · exact k p hp r hr
theorem sub_app {new old : Led} : ∀ p ∈ old, p ∈ new ++ old := fun _ h => List.mem_append.mpr (.inr h)
theorem sub_appL {new old : Led} : ∀ p ∈ new, p ∈ new ++ old := fun _ h => List.mem_append.mpr (.inl h)
theorem sub_cons {q : Addr × Obj} {l : Led} : ∀ p ∈ l, p ∈ q :: l := fun _ h => List.mem_cons_of_mem _ h

section
variable {prog : Program} {w : World} {A : Around} {h₀ : Heap} {L : Addr} {m : Str → Option Value} {env : Env} {elt : Expr} {x : Str} {scope : Scope} {cl : List (Str × Addr)} {s : Shared} {S : Led → Prop} {P : Nat → Value → Prop} {Fin : List Value → Led → Prop}
/-- a comprehension by an invariant over what it has made -/
theorem rest_inv {n : Nat} {news : Led} (Inv : Nat → List Value → Led → Prop) (h0 : Inv 0 [] news)
    (turn : ∀ i v ys nw I oI C oC D m₂ h tk (E' : Value → Shared → Prop), i < n → P i v → Inv i ys nw → LCg.NsObj oC m₂ → m₂ x = some v → Fr h₀ L h m → News h₀ L h ((I, oI) :: (C, oC) :: (D, LCg.lst ys) :: nw) → LCg.Off3 I C D nw → ((@Ne Nat I C) ∧ (@Ne Nat I D) ∧ (@Ne Nat C D)) →
      wpAny (model prog w) A (eval elt (compEnvC scope cl C env)) (LCg.CompEnd h₀ L m { s with heap := h, toks := tk } I oI C oC D (LCg.lst ys) S (fun y nw' => Inv (i + 1) (ys ++ [y]) nw')) E' { s with heap := h, toks := tk })
    (fin : ∀ ys nw, Inv n ys nw → Fin ys nw) : LCg.CompRest prog w A h₀ L m env elt x scope cl s S P Fin n 0 [] news := by
  have key : ∀ (j i : Nat) (ys : List Value) (nw : Led), i + j = n → Inv i ys nw → LCg.CompRest prog w A h₀ L m env elt x scope cl s S P Fin j i ys nw := by
    intro j
    induction j with
    | zero =>
      intro i ys nw hi hy
      have e : i = n := by omega
      subst e
      exact LCg.CompRest.zero (fin ys nw hy)
    | succ j ih =>
      intro i ys nw hi hy
      refine LCg.CompRest.succ ?_
      intro v I oI C oC D m₂ h tk E' hv hC hx F N off ne
      refine wpAny_mono (turn i v ys nw I oI C oC D m₂ h tk E' (by omega) hv hy hC hx F N off ne) (fun y s₂ hq => ?_) fun _ _ e => e
      obtain ⟨h', tk', nw', e, F', N', off', hS, r⟩ := hq
      exact ⟨h', tk', nw', e, F', N', off', hS, ih (i + 1) _ nw' (by omega) r⟩
  exact key n 0 [] news (by omega) h0
end
theorem off3_cons {I C D : Addr} {q : Addr × Obj} {l : Led} (h1 : q.1 ≠ I) (h2 : q.1 ≠ C) (h3 : q.1 ≠ D) (h : LCg.Off3 I C D l) : LCg.Off3 I C D (q :: l) := ⟨⟨h1, h2, h3⟩, h⟩
/-- a turn's end: what stood stands, and one object more -/
theorem end_one {h₀ h' : Heap} {L I C D : Addr} {m : Str → Option Value} {s₁ : Shared} {oI oC oD : Obj} {S : Led → Prop} {rest : Value → Led → Prop} {y : Value} {tk : Nat} {all nw : Led} {q : Addr × Obj}
    (F : Fr h₀ L h' m) (N : News h₀ L h' all) (hq : q ∈ all) (hI : (I, oI) ∈ all) (hC : (C, oC) ∈ all) (hD : (D, oD) ∈ all) (hs : ∀ p ∈ nw, p ∈ all) (h1 : q.1 ≠ I) (h2 : q.1 ≠ C) (h3 : q.1 ≠ D) (off : LCg.Off3 I C D nw) (hS : S (q :: nw)) (r : rest y (q :: nw)) :
    LCg.CompEnd h₀ L m s₁ I oI C oC D oD S rest y { s₁ with heap := h', toks := tk } :=
  LCg.CompEnd.intro F N (q :: nw) (fun p hp => by
    rcases List.mem_cons.mp hp with rfl | hp
    · exact hI
    rcases List.mem_cons.mp hp with rfl | hp
    · exact hC
    rcases List.mem_cons.mp hp with rfl | hp
    · exact hD
    rcases List.mem_cons.mp hp with rfl | hp
    · exact hq
    · exact hs p hp) (off3_cons h1 h2 h3 off) hS r
theorem flat_one (v : Value) : ∀ k : Nat, (List.replicate k [v]).flatten = List.replicate k v
  | 0 => rfl
  | k + 1 => by rw [List.replicate_succ, List.replicate_succ, List.flatten_cons, flat_one v k]; rfl

section
variable {prog : Program} {w : World} {A : Around} {E : Value → Shared → Prop} {s : Shared} {a b : Int} {t u : Tok} {Q : Value → Shared → Prop}
theorem m_mod (hb : 0 < b) (h : ∀ r, r = a.fmod b → 0 ≤ r → r < b → Q (.int r s.toks) { s with toks := s.toks + 1 }) : wpAny (model prog w) A (binaryOp .Mod (.int a t) (.int b u)) Q E s :=
  mod_int' (by omega) (h _ rfl (Int.fmod_nonneg_of_pos a hb) (Int.fmod_lt_of_pos a hb))
theorem m_div (ha : 0 ≤ a) (hb : 0 < b) (hs : b < 1073741824) (h : ∀ q, q = a.fdiv b → 0 ≤ q → Q (.int q s.toks) { s with toks := s.toks + 1 }) : wpAny (model prog w) A (binaryOp .FloorDiv (.int a t) (.int b u)) Q E s :=
  floordiv_int (by omega) (h _ rfl (Int.fdiv_nonneg ha (by omega))) (Or.inl (PyProof.noPylong_small (by omega)))
theorem m_mul (ha : -(2 ^ 64) < a) (ha' : a < 2 ^ 64) (h : ∀ q, q = a * b → Q (.int q s.toks) { s with toks := s.toks + 1 }) : wpAny (model prog w) A (binaryOp .Mult (.int a t) (.int b u)) Q E s :=
  mul_int (h _ rfl) (PySem.IntMulOk.of_left (PySem.intBits_le_64 ha ha'))
theorem m_shl (h0 : 0 ≤ b) (h1 : b ≤ 1000) (h : Q (.int (2 ^ b.toNat) s.toks) { s with toks := s.toks + 1 }) : wpAny (model prog w) A (binaryOp .LShift (.int 1 t) (.int b u)) Q E s :=
  lshift_int_small h0 (by omega) (by decide) (by rw [Int.one_mul]; exact h)
variable {h₀ : Heap} {L : Addr} {m : Str → Option Value} {news : Led} {l : Addr} {v : Value} {x : Int} {n : Nat}
/-- [v] * x -/
theorem m_rep (F : Fr h₀ L s.heap m) (N : News h₀ L s.heap news) (hm : (l, listOf [v].toArray n) ∈ news) (h0 : 0 ≤ x) (h1 : x ≤ 200)
    (h : ∀ D h', Fr h₀ L h' m → News h₀ L h' ((D, listOf (List.replicate x.toNat v).toArray 0) :: news) → (∀ p ∈ news, p.1 < D) → Q (.ref D) { s with heap := h' }) : wpAny (model prog w) A (binaryOp .Mult (.ref l) (.int x u)) Q E s :=
  KMa.mul F N (News.isList N hm) (by omega) (by omega) (by simp only [List.length_cons, List.length_nil]; omega) (flat_one v x.toNat) h
end
end Mine
end

-- part C0
section
namespace Mine
/-- all that stood stands, but what lies at the places told -/
def KeepBut (h h' : Heap) (ds : List Addr) : Prop := ∀ b o, b ∉ ds → h.get? b = some o → h'.get? b = some o

/-- what a draw gives back -/
structure Drawn (s : Shared) (d : Addr) (n : Nat) (top : Int) (v : Value) (s' : Shared) : Prop where
  out : ∃ (k : Int) (t : Tok) (x' : Int) (tx : Tok) (y' : Int) (ty : Tok) (h' : Heap) (tk : Nat), v = .int k t ∧ 0 ≤ k ∧ k < top ∧ 0 ≤ x' ∧ 0 ≤ y' ∧ y' < 2147483647 ∧ s' = { s with heap := h', toks := tk } ∧
    KeepBut s.heap h' [d] ∧ h'.get? d = some (listOf #[.int x' tx, .int y' ty] n)

def TakeC (w : World) (K : Frag) (p : Program) (loose : List Str) (mean : ExcName → Option Value) (mg mb : Str → Option Value) (f : Addr) : Prop :=
  ∀ (dp un : Nat) (gd : Option (List Code)) (cn : Str) (cs : Scope) (a : Addr) (ccd : Value) (cl : List (Str × Addr)) (outer : List Env) (A₀ : Around) (base h₀ : Heap) (L : Addr) (m : Str → Option Value) (s : Shared) (d : Addr) (x : Int) (tx : Tok) (y : Int) (ty : Tok) (n : Nat) (top : Int) (tt : Tok)
    (E : Value → Shared → Prop),
    Below A₀ base outer h₀ → Fr h₀ L s.heap m → K.In h₀ → News h₀ L s.heap [(d, listOf [.int x tx, .int y ty].toArray n)] → Top p loose mean mg mb h₀ → cs.kind = .function →
    dp + 1 < recursionLimit → un + 8 < cLine → 0 ≤ x → 0 ≤ y → y < 2147483647 → 0 < top → top < 1073741824 →
    wpAny (model Challenge.rw_xm0805_01.row.prog w) (ktrTop dp un gd cn cs L a ccd cl outer) (call (.ref f) [.ref d, .int top tt]) (Drawn s d n top) E s

def TakeEnd (s : Shared) (g : Heap) (d : Addr) (n : Nat) (top : Int) (fl : Flow) (s' : Shared) : Prop :=
  ∃ (k : Int) (t : Tok) (x' : Int) (tx : Tok) (y' : Int) (ty : Tok) (L' : Addr) (m' : Str → Option Value) (h' : Heap) (tk : Nat), fl = .ret (.int k t) ∧ 0 ≤ k ∧ k < top ∧ 0 ≤ x' ∧ 0 ≤ y' ∧ y' < 2147483647 ∧ s' = { s with heap := h', toks := tk } ∧
    Fr g L' h' m' ∧ News g L' h' [(d, listOf [.int x' tx, .int y' ty].toArray n)]


local macro_rules | `(tactic| walk_at "binaryOp Mod int int") => `(tactic| (k_here; with_reducible show wpAny _ _ (binaryOp .Mod (.int _ _) (.int _ _)) _ _ _; refine m_mod (by omega) ?_; intro r' hr' h0' h1'))
local macro_rules | `(tactic| walk_at "binaryOp FloorDiv int int") => `(tactic| (k_here; with_reducible show wpAny _ _ (binaryOp .FloorDiv (.int _ _) (.int _ _)) _ _ _; refine m_div (by omega) (by omega) (by omega) ?_; intro q' hq' h0'))
local macro_rules | `(tactic| walk_at "binaryOp Mult int int") => `(tactic| (k_here; with_reducible show wpAny _ _ (binaryOp .Mult (.int _ _) (.int _ _)) _ _ _; refine m_mul (by omega) (by omega) ?_; intro q' hq'))
local macro_rules | `(tactic| walk_at "subscriptTail Name Constant ref int") => `(tactic| (k_here; (with_reducible show wpAny _ _ (subscriptTail _ _ (Value.ref _) (Value.int _ _)) _ _ _); (with_unfolding_all refine' item_litK ?k1 ?k2 ?k3 ?k4 ?_ ?k6; (case k1 => is_list); (case k2 => decide); (case k3 => decide); (case k4 => rfl); (case k6 => with_unfolding_all rfl); k_whole)))

theorem takeEnd_intro {s : Shared} {g h' : Heap} {d L' : Addr} {n tk : Nat} {top k x' y' : Int} {t tx ty : Tok} {m' : Str → Option Value} (F : Fr g L' h' m') (N : News g L' h' [(d, listOf [.int x' tx, .int y' ty].toArray n)])
    (h1 : 0 ≤ k) (h2 : k < top) (h3 : 0 ≤ x') (h4 : 0 ≤ y') (h5 : y' < 2147483647) : TakeEnd s g d n top (.ret (.int k t)) { s with heap := h', toks := tk } :=
  ⟨_, _, _, _, _, _, _, _, _, _, rfl, h1, h2, h3, h4, h5, rfl, F, N⟩
theorem take_holds (w : World) (loose : List Str) (mean : ExcName → Option Value) (mg mb : Str → Option Value) : TakeC w (hd.heap_39 w.params) hd.view_39 loose mean mg mb 94 := by
  unfold TakeC
  k_fill
  intro dp un gd cn cs a ccd cl outer A₀ base h₀ L m s d x tx y ty n top tt E B F X N T hk hd hu hx hy hy2 ht ht2
  refine wpAny_call ?_
  k_dflt (refine' code_defG ?k1 ?k2 ?k3 ?k4 ?k5 ?kA ?kF ?kK ?k6 ?k7 ?k8 ?k9 ?kB ?_ ?c2 ?c3 ?c4 ?c5; (case kA => exact rfl); (case kF => exact rfl); (case kK => assumption); (case k1 => k_asm); (case k2 => k_asm); (case k3 => k_asm); (case k4 => k_asm); (case k5 => k_asm); (case k6 => k_is); (case k7 => k_is); (case k8 => ktr_room); (case k9 => exact BindsTo.of_eq rfl); (case c5 => decide); (case kB => exact locs rfl); (case c2 => exact rfl); (case c3 => exact rfl); (case c4 => exact rfl); k_whole)
  intro g' L' h' FG' F' N' B' X' T' kG'
  (try dsimp only)
  refine wpAny_mono (Q := TakeEnd s g' d n top) ?_ ?_ (fun _ _ e => e)
  · (try k_lift B')
    (try k_fold)
    k_steps
    all_goals (with_unfolding_all (show TakeEnd s g' d n top _ _); refine' takeEnd_intro ?k1 ?k2 ?_ ?_ ?_ ?_ ?_; (case k1 => k_asm); (case k2 => k_asm))
    all_goals first | assumption | omega
  · rintro fl s' ⟨k, t, x', tx', y', ty', L1, m1, h1, tk1, rfl, e1, e2, e3, e4, e5, rfl, F1, N1⟩
    refine ⟨L1, m1, _, F1, N1, fun _ _ => ?_⟩
    refine ⟨k, t, x', tx', y', ty', h1, tk1, rfl, e1, e2, e3, e4, e5, rfl, fun b o hb e => ?_, (N1 _ (.head _)).1⟩
    exact F1.keep b o (kG' b o e hb)
end Mine
end

-- part G0
section
namespace Mine
/-- a grid of one number -/
def ConstInv (news : Led) (k : Nat) (c : Int) (i : Nat) (ys : List Value) (nw : Led) : Prop := ∃ new, nw = new ++ news ∧ Apart new news ∧ RowsIn new ys (List.replicate i (List.replicate k c))
theorem ConstInv.start (news : Led) (k : Nat) (c : Int) : ConstInv news k c 0 [] news := ⟨[], rfl, Apart.nil, .nil⟩
theorem ConstInv.step {new news : Led} {k : Nat} {c : Int} {i : Nat} {ys : List Value} {D : Addr} {t : Tok} {us : List Value} {n : Nat} (ap : Apart new news) (hr : RowsIn new ys (List.replicate i (List.replicate k c))) (hu : us = List.replicate k (.int c t)) (l1 : ∀ p ∈ news, p.1 < D) :
    ConstInv news k c (i + 1) (ys ++ [.ref D]) ((D, listOf us.toArray n) :: (new ++ news)) := by
  subst hu
  refine ⟨_ :: new, rfl, Apart.cons l1 ap, ?_⟩
  rw [List.replicate_succ']
  exact (hr.mono sub_cons).append (.cons (.head _) (ints_same c t k) .nil)
/-- a copy, row by row -/
def CopyInv (news : Led) (rows : List (List Int)) (i : Nat) (ys : List Value) (nw : Led) : Prop := ∃ new, nw = new ++ news ∧ Apart new news ∧ RowsIn new ys (rows.take i)
theorem CopyInv.start (news : Led) (rows : List (List Int)) : CopyInv news rows 0 [] news := ⟨[], rfl, Apart.nil, by rw [List.take_zero]; exact .nil⟩
theorem CopyInv.step {new news : Led} {rows : List (List Int)} {i : Nat} {ys : List Value} {D : Addr} {r : List Int} {us : List Value} {n : Nat} (ap : Apart new news) (hr : RowsIn new ys (rows.take i)) (hg : rows[i]? = some r) (hu : IntsAre us r) (l1 : ∀ p ∈ news, p.1 < D) :
    CopyInv news rows (i + 1) (ys ++ [.ref D]) ((D, listOf us.toArray n) :: (new ++ news)) := by
  refine ⟨_ :: new, rfl, Apart.cons l1 ap, ?_⟩
  rw [List.take_add_one, hg]
  exact (hr.mono sub_cons).append (.cons (.head _) hu .nil)

def Tell (a b : Int) : Prop := True
section
variable {prog : Program} {w : World} {A : Around} {h₀ : Heap} {L : Addr} {m : Str → Option Value} {env : Env} {elt : Expr} {x : Str} {scope : Scope} {cl : List (Str × Addr)} {s : Shared} {S : Led → Prop} {P : Nat → Value → Prop} {Fin : List Value → Led → Prop}
theorem rest_const {n : Nat} {news : Led} (k : Nat) (c : Int)
    (turn : ∀ i ys new I oI C oC D h tk (E' : Value → Shared → Prop), Apart new news → RowsIn new ys (List.replicate i (List.replicate k c)) → Fr h₀ L h m → News h₀ L h ((I, oI) :: (C, oC) :: (D, LCg.lst ys) :: (new ++ news)) → LCg.Off3 I C D (new ++ news) →
      wpAny (model prog w) A (eval elt (compEnvC scope cl C env)) (LCg.CompEnd h₀ L m { s with heap := h, toks := tk } I oI C oC D (LCg.lst ys) S (fun y nw' => ConstInv news k c (i + 1) (ys ++ [y]) nw')) E' { s with heap := h, toks := tk })
    (fin : ∀ ys new, Apart new news → RowsIn new ys (List.replicate n (List.replicate k c)) → Fin ys (new ++ news)) : LCg.CompRest prog w A h₀ L m env elt x scope cl s S P Fin n 0 [] news := by
  refine rest_inv (ConstInv news k c) (ConstInv.start news k c) ?_ ?_
  · rintro i v ys nw I oI C oC D m₂ h tk E' hi hv ⟨new, rfl, ap, hr⟩ hC hx F N off ne
    exact turn i ys new I oI C oC D h tk E' ap hr F N off
  · rintro ys nw ⟨new, rfl, ap, hr⟩
    exact fin ys new ap hr
theorem rest_constT {n : Nat} {news : Led} {wd prec : Int} (tl : Tell wd prec)
    (turn : ∀ i ys new I oI C oC D h tk (E' : Value → Shared → Prop), Apart new news → RowsIn new ys (List.replicate i (List.replicate wd.toNat (2 ^ (prec - 1).toNat))) → Fr h₀ L h m → News h₀ L h ((I, oI) :: (C, oC) :: (D, LCg.lst ys) :: (new ++ news)) → LCg.Off3 I C D (new ++ news) →
      wpAny (model prog w) A (eval elt (compEnvC scope cl C env)) (LCg.CompEnd h₀ L m { s with heap := h, toks := tk } I oI C oC D (LCg.lst ys) S (fun y nw' => ConstInv news wd.toNat (2 ^ (prec - 1).toNat) (i + 1) (ys ++ [y]) nw')) E' { s with heap := h, toks := tk })
    (fin : ∀ ys new, Apart new news → RowsIn new ys (List.replicate n (List.replicate wd.toNat (2 ^ (prec - 1).toNat))) → Fin ys (new ++ news)) : LCg.CompRest prog w A h₀ L m env elt x scope cl s S P Fin n 0 [] news :=
  rest_const _ _ turn fin
theorem rest_copy {news news₀ : Led} {vs : List Value} {rows : List (List Int)} (hrows₀ : RowsIn news₀ vs rows) (hb : ∀ r ∈ rows, r.length ≤ 100) (hs : ∀ p ∈ news₀, p ∈ news)
    (turn : ∀ i ys new I oI C oC D m₂ h tk a us na r (E' : Value → Shared → Prop), Apart new news → RowsIn new ys (rows.take i) → rows[i]? = some r → (a, listOf us.toArray na) ∈ news → IntsAre us r → us.toArray.size ≤ sizeLine → LCg.NsObj oC m₂ → m₂ x = some (.ref a) → Fr h₀ L h m → News h₀ L h ((I, oI) :: (C, oC) :: (D, LCg.lst ys) :: (new ++ news)) → LCg.Off3 I C D (new ++ news) →
      wpAny (model prog w) A (eval elt (compEnvC scope cl C env)) (LCg.CompEnd h₀ L m { s with heap := h, toks := tk } I oI C oC D (LCg.lst ys) S (fun y nw' => CopyInv news rows (i + 1) (ys ++ [y]) nw')) E' { s with heap := h, toks := tk })
    (fin : ∀ ys new, Apart new news → RowsIn new ys rows → Fin ys (new ++ news)) : LCg.CompRest prog w A h₀ L m env elt x scope cl s S (fun i v => vs.toArray[i]? = some v) Fin vs.toArray.size 0 [] news := by
  have hrows := hrows₀.mono hs
  refine rest_inv (CopyInv news rows) (CopyInv.start news rows) ?_ ?_
  · rintro i v ys nw I oI C oC D m₂ h tk E' hi hv ⟨new, rfl, ap, hr⟩ hC hx F N off ne
    obtain ⟨a, us, na, r, rfl, hg, hm, hu⟩ := hrows.get i v (by simpa using hv)
    have hl := hb r (List.mem_of_getElem? hg)
    exact turn i ys new I oI C oC D m₂ h tk a us na r E' ap hr hg hm hu (by rw [List.size_toArray, hu.length, PySem.sizeLine_eq]; omega) hC hx F N off
  · rintro ys nw ⟨new, rfl, ap, hr⟩
    refine fin ys new ap ?_
    rw [List.size_toArray, hrows.length, List.take_length] at hr
    exact hr
end

theorem all_ne_of {d : Addr} {l l' : Led} (h : ∀ p ∈ l', p.1 < d) (hs : ∀ p ∈ l, p ∈ l') : ∀ p ∈ l, p.1 ≠ d := fun p hp => Nat.ne_of_lt (h p (hs p hp))

def GreyRes (h₀ : Heap) (L : Addr) (m : Str → Option Value) (news : Led) (s : Shared) (wd ht : Int) (rows : List (List Int)) (prec : Int) (v : Value) (s' : Shared) : Prop :=
  ∃ (new : Led) (P p1 p2 p3 R1 R2 R3 : Addr) (nn : Nat) (h' : Heap) (tk : Nat), v = .ref P ∧ s' = { s with heap := h', toks := tk } ∧ Fr h₀ L h' m ∧ News h₀ L h' (new ++ news) ∧ Apart new news ∧
    (P, listOf [.ref p1, .ref p2, .ref p3].toArray nn) ∈ new ∧ PlaneIn new p1 wd ht R1 ∧ PlaneIn new p2 wd ht R2 ∧ PlaneIn new p3 wd ht R3 ∧
    GridIn new R1 rows ∧ GridIn new R2 (List.replicate ht.toNat (List.replicate wd.toNat (2 ^ (prec - 1).toNat))) ∧ GridIn new R3 (List.replicate ht.toNat (List.replicate wd.toNat (2 ^ (prec - 1).toNat)))

def GreyC (w : World) (K : Frag) (p' : Program) (loose : List Str) (mean : ExcName → Option Value) (mg mb : Str → Option Value) (f : Addr) : Prop :=
  ∀ (dp un : Nat) (gd : Option (List Code)) (cn : Str) (cs : Scope) (a : Addr) (ccd : Value) (cl : List (Str × Addr)) (outer : List Env) (A₀ : Around) (base h₀ : Heap) (L : Addr) (m : Str → Option Value) (news : Led) (s : Shared) (P : Addr) (rest : List Value) (nP : Nat) (p : Addr) (wd ht : Int) (R : Addr) (rows : List (List Int)) (prec : Int) (tp : Tok)
    (E : Value → Shared → Prop),
    Below A₀ base outer h₀ → Fr h₀ L s.heap m → K.In h₀ → News h₀ L s.heap news → Top p' loose mean mg mb h₀ → cs.kind = .function →
    dp + 8 < recursionLimit → un + 64 < cLine → (P, listOf (.ref p :: rest).toArray nP) ∈ news → PlaneIn news p wd ht R → GridIn news R rows → 1 ≤ wd → wd ≤ 100 → 1 ≤ ht → ht ≤ 100 → rows.length ≤ 100 → (∀ r ∈ rows, r.length ≤ 100) → 1 ≤ prec → prec ≤ 100 →
    wpAny (model Challenge.rw_xm0805_01.row.prog w) (ktrTop dp un gd cn cs L a ccd cl outer) (call (.ref f) [.ref P, .int prec tp]) (GreyRes h₀ L m news s wd ht rows prec) E s

def GreyEnd (s : Shared) (g : Heap) (news : Led) (wd ht : Int) (rows : List (List Int)) (prec : Int) (fl : Flow) (s' : Shared) : Prop :=
  ∃ (new : Led) (P p1 p2 p3 R1 R2 R3 : Addr) (nn : Nat) (h' : Heap) (tk : Nat) (L' : Addr) (m' : Str → Option Value), fl = .ret (.ref P) ∧ s' = { s with heap := h', toks := tk } ∧ Fr g L' h' m' ∧ News g L' h' (new ++ news) ∧ Apart new news ∧
    (P, listOf [.ref p1, .ref p2, .ref p3].toArray nn) ∈ new ∧ PlaneIn new p1 wd ht R1 ∧ PlaneIn new p2 wd ht R2 ∧ PlaneIn new p3 wd ht R3 ∧
    GridIn new R1 rows ∧ GridIn new R2 (List.replicate ht.toNat (List.replicate wd.toNat (2 ^ (prec - 1).toNat))) ∧ GridIn new R3 (List.replicate ht.toNat (List.replicate wd.toNat (2 ^ (prec - 1).toNat)))

theorem Apart.sub {new old old' : Led} (h : Apart new old') (hs : ∀ p ∈ old, p ∈ old') : Apart new old := fun p hp q hq => h p hp q (hs q hq)
theorem off1_ne {D : Addr} : ∀ {l : Led}, LCg.Off1 D l → ∀ p ∈ l, p.1 ≠ D
  | [], _, _, h => nomatch h
  | _ :: _, x, p, h => by
    rcases List.mem_cons.mp h with rfl | h
    · exact x.1
    · exact off1_ne x.2 p h
def dictP (h1 : Int) (t1 : Tok) (wd : Int) (tw : Tok) (h2 : Int) (t2 : Tok) (ht : Int) (th : Tok) (h3 : Int) (t3 : Tok) (R : Addr) : List DictEntry :=
  [⟨h1, .str (Str.ofString "width") t1, .int wd tw⟩, ⟨h2, .str (Str.ofString "height") t2, .int ht th⟩, ⟨h3, .str (Str.ofString "rows") t3, .ref R⟩]
theorem grey_fin {s : Shared} {g h' : Heap} {L' : Addr} {m' : Str → Option Value} {news : Led} {tk nn : Nat} {wd ht prec : Int} {rows : List (List Int)} {l x1 x2 x3 d1 d2 d3 Dc Do Dp c1 c2 : Addr} {o1 o2 : Obj} {yc yo yp : List Value} {newc newo newp : Led}
    {a1 a2 a3 b1 b2 b3 e1 e2 e3 : Int} {s1 s2 s3 s4 s5 t1 t2 t3 t4 t5 u1 u2 u3 u4 u5 : Tok} {n1 n2 n3 : Nat}
    (F : Fr g L' h' m') (N : News g L' h' ((l, listOf [.ref x1, .ref x2, .ref x3].toArray nn) :: (x3, instObj 52 d3) :: (d3, dictOf [⟨a1, .str (Str.ofString "width") s1, .int wd s2⟩, ⟨a2, .str (Str.ofString "height") s3, .int ht s4⟩, ⟨a3, .str (Str.ofString "rows") s5, .ref Do⟩] n3) ::
      (x2, instObj 52 d2) :: (d2, dictOf [⟨b1, .str (Str.ofString "width") t1, .int wd t2⟩, ⟨b2, .str (Str.ofString "height") t3, .int ht t4⟩, ⟨b3, .str (Str.ofString "rows") t5, .ref Dp⟩] n2) ::
      (x1, instObj 52 d1) :: (d1, dictOf [⟨e1, .str (Str.ofString "width") u1, .int wd u2⟩, ⟨e2, .str (Str.ofString "height") u3, .int ht u4⟩, ⟨e3, .str (Str.ofString "rows") u5, .ref Dc⟩] n1) ::
      (Dc, LCg.lst yc) :: (newc ++ (Do, LCg.lst yo) :: (newo ++ (Dp, LCg.lst yp) :: (newp ++ (c2, o2) :: (c1, o1) :: news)))))
    (kl : ∀ p ∈ news, p.1 < l) (kx3 : @LT.lt Nat _ d3 x3) (kd3 : ∀ p ∈ news, p.1 < d3) (kx2 : @LT.lt Nat _ d2 x2) (kd2 : ∀ p ∈ news, p.1 < d2) (kx1 : @LT.lt Nat _ d1 x1) (kd1 : ∀ p ∈ news, p.1 < d1)
    (kc1 : ∀ p ∈ news, p.1 < c1) (kc2 : ∀ p ∈ news, p.1 < c2) (kDc : ∀ p ∈ news, p.1 ≠ Dc) (kDo : ∀ p ∈ news, p.1 ≠ Do) (kDp : ∀ p ∈ news, p.1 ≠ Dp) (kc : Apart newc news) (ko : Apart newo news) (kp : Apart newp news)
    (rc : RowsIn newc yc rows) (ro : RowsIn newo yo (List.replicate (ht - 0).toNat (List.replicate wd.toNat (2 ^ (prec - 1).toNat)))) (rp : RowsIn newp yp (List.replicate (ht - 0).toNat (List.replicate wd.toNat (2 ^ (prec - 1).toNat)))) :
    GreyEnd s g news wd ht rows prec (.ret (.ref l)) { s with heap := h', toks := tk } := by
  rw [Int.sub_zero] at ro rp
  refine ⟨(l, listOf [.ref x1, .ref x2, .ref x3].toArray nn) :: (x3, instObj 52 d3) :: (d3, dictOf [⟨a1, .str (Str.ofString "width") s1, .int wd s2⟩, ⟨a2, .str (Str.ofString "height") s3, .int ht s4⟩, ⟨a3, .str (Str.ofString "rows") s5, .ref Do⟩] n3) ::
      (x2, instObj 52 d2) :: (d2, dictOf [⟨b1, .str (Str.ofString "width") t1, .int wd t2⟩, ⟨b2, .str (Str.ofString "height") t3, .int ht t4⟩, ⟨b3, .str (Str.ofString "rows") t5, .ref Dp⟩] n2) ::
      (x1, instObj 52 d1) :: (d1, dictOf [⟨e1, .str (Str.ofString "width") u1, .int wd u2⟩, ⟨e2, .str (Str.ofString "height") u3, .int ht u4⟩, ⟨e3, .str (Str.ofString "rows") u5, .ref Dc⟩] n1) ::
      (Dc, LCg.lst yc) :: (newc ++ (Do, LCg.lst yo) :: (newo ++ (Dp, LCg.lst yp) :: (newp ++ [(c2, o2), (c1, o1)]))), l, x1, x2, x3, Dc, Dp, Do, nn, h', tk, L', m', rfl, rfl, F, ?_, ?_, ?_, ?_, ?_, ?_, ?_, ?_, ?_⟩
  · simpa using N
  · refine .cons kl (.cons (fun p hp => Nat.lt_trans (kd3 p hp) kx3) (.cons kd3 (.cons (fun p hp => Nat.lt_trans (kd2 p hp) kx2) (.cons kd2 (.cons (fun p hp => Nat.lt_trans (kd1 p hp) kx1) (.cons kd1 (.cons' kDc (.append kc (.cons' kDo (.append ko (.cons' kDp (.append kp (.cons kc2 (.cons kc1 .nil))))))))))))))
  · exact List.mem_cons_self
  · exact ⟨d1, e1, u1, u2, e2, u3, u4, e3, u5, n1, by kcj_m, by kcj_m⟩
  · exact ⟨d2, b1, t1, t2, b2, t3, t4, b3, t5, n2, by kcj_m, by kcj_m⟩
  · exact ⟨d3, a1, s1, s2, a2, s3, s4, a3, s5, n3, by kcj_m, by kcj_m⟩
  · exact ⟨yc, yc.length, by kcj_m, rc.mono (by kcj_in)⟩
  · exact ⟨yp, yp.length, by kcj_m, rp.mono (by kcj_in)⟩
  · exact ⟨yo, yo.length, by kcj_m, ro.mono (by kcj_in)⟩

local macro_rules | `(tactic| k_lt $h:ident) => `(tactic| (have hAll9 := $h; replace $h := allLt_of $h; (try simp only [AllLt, and_true] at $h:ident)))
local macro_rules | `(tactic| k_room) => `(tactic| ((try simp only [depth_under_make, depth_under_kw, depth_in1, depth_deeper, depth_caller]); (try dsimp only [ktrTop]); omega))
local macro_rules | `(tactic| k_mem) => `(tactic| kcj_m)
local macro_rules | `(tactic| k_all) => `(tactic| exact all_ne_of (by assumption) (by kcj_in))
local macro_rules | `(tactic| walk_at "binaryOp LShift int int") => `(tactic| (k_here; (with_reducible show wpAny _ _ (binaryOp .LShift (.int _ _) (.int _ _)) _ _ _); with_unfolding_all refine m_shl (by omega) (by omega) ?_))
local macro_rules | `(tactic| walk_at "binaryOp Mult ref int") => `(tactic| (k_here; (with_reducible show wpAny _ _ (binaryOp .Mult (.ref _) (.int _ _)) _ _ _); (refine' m_rep ?k1 ?k2 ?k3 ?k4 ?k5 ?_; (case k1 => k_asm); (case k2 => k_asm); (case k3 => k_dflt k_mem); (case k4 => omega); (case k5 => omega)); (intro D' h' F' N' l1); (try k_lt l1)))
local macro_rules | `(tactic| walk_at "subscriptTail Name Constant ref int") => `(tactic| (k_here; (with_reducible show wpAny _ _ (subscriptTail _ _ (Value.ref _) (Value.int _ _)) _ _ _); (with_unfolding_all refine' item_litK ?k1 ?k2 ?k3 ?k4 ?_ ?k6; (case k1 => exact News.isList (by k_asm) (by k_dflt k_mem)); (case k2 => decide); (case k3 => decide); (case k4 => rfl); (case k6 => with_unfolding_all rfl); k_whole)))
local macro_rules | `(tactic| walk_at "CompSrc") => `(tactic| (k_here; k_dflt (refine LCg.CompSrc.range (by rfl) (by k_asm) (by k_asm) (by assumption) (small_one (by omega) (by omega) (by omega) (by omega)) (rangeSize_nat _ _) (by rw [PySem.sizeLine_eq]; omega) ?_); (intro g'); (refine' rest_constT (by assumption) ?_ ?_); (intro i' ys' new' I' oI' C' oC' D' h' tk' E' ap' hr' F' N' off'); (try k_fold); rotate_left; (intro ys' new' ap' hr'); rotate_left))
local macro_rules | `(tactic| walk_at "CompSrc") => `(tactic| (k_here; k_dflt (refine LCg.CompSrc.ledger (by rfl) (by k_asm) (by k_asm) (by kcj_m) (by assumption) ?_); (intro g'); (refine' rest_copy (by assumption) (by assumption) (by kcj_in) ?_ ?_); (intro i' ys' new' I' oI' C' oC' D' m' h' tk' a' us' na' r' E' ap' hr' hg' hm' hu' hsz' hC' hx' F' N' off'); (try k_fold); rotate_left; (intro ys' new' ap' hr'); rotate_left))
local macro_rules | `(tactic| walk_at "eval ListComp") => `(tactic| (k_here; k_dflt (refine LCg.ListComp_U (F₀ := by k_asm) (by with_unfolding_all rfl) (by decide) (by rfl) (by decide) (by rfl) ?_)))
local macro_rules | `(tactic| walk_at "call type:list") => `(tactic| (k_here; (with_reducible show wpAny _ _ (call (Value.type _) [Value.ref _]) _ _ _); (with_unfolding_all refine' list_copyK ?F ?N ?l ?_ ?z; (case F => k_asm); (case N => k_asm); (case l => exact News.isList (by k_asm) (by k_dflt kcj_m)); (case z => assumption); k_whole); (intro D' c' h' F' N' l1); (try k_lt l1)))
local macro_rules | `(tactic| walk_at "CompEnd") => `(tactic| (k_here; (refine' end_one ?F ?N ?q ?I ?C ?D ?s ?n1 ?n2 ?n3 ?off ?S ?r); (case F => k_asm); (case N => k_asm); (case q => exact List.mem_cons_self); (case I => k_dflt kcj_m); (case C => k_dflt kcj_m); (case D => k_dflt kcj_m); (case off => k_asm); (case s => kcj_in); (case n1 => k_ne); (case n2 => k_ne); (case n3 => k_ne); (case S => first | exact True.intro | exact Or.inr ⟨_, by k_dflt kcj_m, rfl, _, rfl⟩); (case r => first | exact ConstInv.step (by assumption) (by assumption) rfl (fun p hp => (by assumption : ∀ p ∈ _, p.1 < _) p (by kcj_m)) | exact CopyInv.step (by assumption) (by assumption) (by assumption) (by assumption) (fun p hp => (by assumption : ∀ p ∈ _, p.1 < _) p (by kcj_m)))))

theorem grey_holds (w : World) (loose : List Str) (mean : ExcName → Option Value) (mg mb : Str → Option Value) : GreyC w (hd.heap_39 w.params) hd.view_39 loose mean mg mb 80 := by
  unfold GreyC
  k_fill
  rintro dp un gd cn cs a ccd cl outer A₀ base h₀ L m news s P rest nP p wd ht R rows prec tp E B F X N T hk hd hu hP ⟨pd, hp1, pt1, ptw, hp2, pt2, pth, hp3, pt3, pn, hpi, hpd⟩ ⟨rvs, rn, hR, hrows⟩ hw1 hw2 hh1 hh2 hrl hrb hpr1 hpr2
  have hsz : rvs.toArray.size ≤ sizeLine := by rw [List.size_toArray, hrows.length, PySem.sizeLine_eq]; omega
  have tl : Tell wd prec := True.intro
  refine wpAny_call ?_
  k_dflt (refine' code_defC ?k1 ?k2 ?k3 ?k4 ?k5 ?kA ?kF ?kK ?k6 ?k7 ?k8 ?k9 ?kB ?kD ?_ ?c2 ?c3 ?c4; (case kA => exact rfl); (case kF => exact rfl); (case kK => assumption); (case k1 => k_asm); (case k2 => k_asm); (case k3 => k_asm); (case k4 => k_asm); (case k5 => k_asm); (case k6 => k_is); (case k7 => k_is); (case k8 => ktr_room); (case k9 => exact BindsTo.of_eq rfl); (case kB => exact rfl); (case kD => decide +kernel); (case c2 => exact rfl); (case c3 => exact rfl); (case c4 => exact rfl); k_whole)
  intro g' L' h' tk' cells' FG' F' N' Y' B' X' T' l1
  have l1a : ∀ p ∈ news, p.1 < L' + 1 := fun p hp => Nat.lt_succ_of_lt (l1 p hp)
  have l1b : ∀ p ∈ news, p.1 < L' + 1 + 1 := fun p hp => Nat.lt_succ_of_lt (l1a p hp)
  k_cells Y'
  (try simp only [List.cons_append, List.nil_append] at N')
  (try dsimp only)
  refine wpAny_mono (Q := GreyEnd s g' news wd ht rows prec) ?_ ?_ (fun _ _ e => e)
  · (try k_lift B')
    (try k_fold)
    k_steps
    all_goals (with_unfolding_all (show GreyEnd s g' news wd ht rows prec _ _); (refine' grey_fin ?F ?N ?_ ?_ ?_ ?_ ?_ ?_ ?_ ?_ ?_ ?_ ?_ ?_ ?_ ?_ ?_ ?_ ?_ ?_); (case F => k_asm); (case N => k_asm))
    all_goals first
      | assumption
      | exact fun p hp => (by assumption : ∀ p ∈ _, p.1 < _) p (by kcj_m)
      | exact fun p hp => off1_ne (by assumption) p (by kcj_m)
      | exact Apart.sub (by assumption) (by kcj_in)
  · rintro fl s' ⟨new, P', p1, p2, p3, R1, R2, R3, nn, h1, tk1, L1, m1, rfl, rfl, F1, N1, ap, q1, q2, q3, q4, q5, q6, q7⟩
    exact ⟨L1, m1, _, F1, N1, fun F2 N2 => ⟨new, P', p1, p2, p3, R1, R2, R3, nn, h1, tk1, rfl, rfl, F2, N2, ap, q1, q2, q3, q4, q5, q6, q7⟩⟩
end Mine
end

-- part P0
section
namespace Mine
/-- three names that hold ints, and what holds of them -/
def Loop3 (y1 y2 y3 : Str) (P : Int → Int → Int → Prop) (m : Str → Option Value) : Prop :=
  ∃ (a : Int) (ta : Tok) (b : Int) (tb : Tok) (c : Int) (tc : Tok), m y1 = some (.int a ta) ∧ m y2 = some (.int b tb) ∧ m y3 = some (.int c tc) ∧ P a b c
theorem loop3_map {y1 y2 y3 x : Str} {m : Str → Option Value} {a b c : Value} {v : Value} (h1 : m y1 = some a) (h2 : m y2 = some b) (h3 : m y3 = some c) :
    (fun z => if z = x then some v else m z) = fun z => if z = x then some v else if z = y1 then some a else if z = y2 then some b else if z = y3 then some c else m z := by
  funext z
  by_cases e : z = x
  · simp [e]
  · simp only [if_neg e]
    by_cases e1 : z = y1
    · simp [e1, h1]
    · by_cases e2 : z = y2
      · subst e2; simp [e1, h2]
      · by_cases e3 : z = y3
        · subst e3; simp [e1, e2, h3]
        · simp [e1, e2, e3]
theorem loop3_done {y1 y2 y3 : Str} {m : Str → Option Value} {a b c : Value} (h1 : m y1 = some a) (h2 : m y2 = some b) (h3 : m y3 = some c) :
    m = fun z => if z = y1 then some a else if z = y2 then some b else if z = y3 then some c else m z := by
  funext z
  by_cases e1 : z = y1
  · simp [e1, h1]
  · by_cases e2 : z = y2
    · subst e2; simp [e1, h2]
    · by_cases e3 : z = y3
      · subst e3; simp [e1, e2, h3]
      · simp [e1, e2, e3]
section
variable {prog : Program} {w : World} {A : Around} {E : Value → Shared → Prop} {s : Shared} {env : Env} {h₀ : Heap} {x : Str} {body : List Stmt} {Q : Flow → Shared → Prop}
theorem range3 (y1 y2 y3 : Str) (P : Nat → Int → Int → Int → Prop) {r : Addr} {a₀ b₀ : Int} {t₀ u₀ v₀ : Tok} {n : Nat} {m₀ : Str → Option Value} {news : Led} {c1 c2 c3 : Int} {t1 t2 t3 : Tok}
    (hh : A.handled = none) (hr : IsRange s.heap r a₀ b₀ 1 t₀ u₀ v₀) (hsmall : Builtin.Range.small a₀ b₀ 1 = true) (hn : Builtin.Range.rangeSize a₀ b₀ 1 = (n : Int)) (F : Fr h₀ env.locals s.heap m₀) (N : News h₀ env.locals s.heap news)
    (e1 : m₀ y1 = some (.int c1 t1)) (e2 : m₀ y2 = some (.int c2 t2)) (e3 : m₀ y3 = some (.int c3 t3)) (hP : P 0 c1 c2 c3)
    (turn : ∀ i k t a ta b tb c tc (u : Str → Option Value) h tk own, i < n → OwnOff own (news.map (·.1)) → P i a b c → Fr h₀ env.locals h (fun z => if z = x then some (.int k t) else if z = y1 then some (.int a ta) else if z = y2 then some (.int b tb) else if z = y3 then some (.int c tc) else u z) → News h₀ env.locals h (news ++ own) →
      wpAny (model prog w) A (execs body env) (InvPostN h₀ env.locals (fun m' nx => nx = news ∧ Loop3 y1 y2 y3 (P (i + 1)) m') own (news.map (·.1)) { s with heap := h, toks := tk } Q) E { s with heap := h, toks := tk })
    (done : ∀ a ta b tb c tc (u : Str → Option Value) h tk, P n a b c → Fr h₀ env.locals h (fun z => if z = y1 then some (.int a ta) else if z = y2 then some (.int b tb) else if z = y3 then some (.int c tc) else u z) → News h₀ env.locals h news → Q .next { s with heap := h, toks := tk }) :
    wpAny (model prog w) A (pyIter (.ref r)) (fun it s₂ => LoopAtV prog w A h₀ env x body Q E it s₂) E s := by
  refine kpr_invN (fun i m nx => nx = news ∧ Loop3 y1 y2 y3 (P i) m) hh hr hsmall hn F N ⟨rfl, _, _, _, _, _, _, e1, e2, e3, hP⟩ ?_ ?_
  · rintro i k t m₁ nx h tk own hk hoff ⟨rfl, a, ta, b, tb, c, tc, f1, f2, f3, hp⟩ F₁ N₁
    rw [loop3_map f1 f2 f3] at F₁
    have hi : i < n := by
      have := (List.getElem?_eq_some_iff.mp hk).1
      rwa [rangeKs_length] at this
    exact turn i k t a ta b tb c tc m₁ h tk own hi hoff hp F₁ N₁
  · rintro m₁ nx h tk ⟨rfl, a, ta, b, tb, c, tc, f1, f2, f3, hp⟩ F₁ N₁
    rw [loop3_done f1 f2 f3] at F₁
    rw [rangeKs_length] at hp
    exact done a ta b tb c tc m₁ h tk hp F₁ N₁
end
/-- the sum so far, what is left, the step -/
def ProdP (T : Int) (i : Nat) (f l st : Int) : Prop := f + st * l = T ∧ 0 ≤ l ∧ l * 2 ^ i < 2 ^ 20 ∧ -(2 ^ 20 * 2 ^ i) ≤ st ∧ st ≤ 2 ^ 20 * 2 ^ i
theorem prod_start {T one oth l st : Int} (hT : T = one * oth) (ho : -(2 ^ 20) ≤ one) (ho' : one ≤ 2 ^ 20) (hl : 0 ≤ l) (hl' : l < 2 ^ 20) (hs : (0 ≤ oth ∧ st = one ∧ l = oth) ∨ (oth < 0 ∧ st = 0 - one ∧ l = -oth)) : ProdP T 0 0 l st := by
  rcases hs with ⟨_, rfl, rfl⟩ | ⟨_, rfl, rfl⟩
  · exact ⟨by rw [hT]; omega, hl, by omega, by omega, by omega⟩
  · refine ⟨by rw [hT, Int.zero_sub, Int.neg_mul_neg]; omega, hl, by omega, by omega, by omega⟩
theorem prod_bounds {T : Int} {i : Nat} {f l st : Int} (h : ProdP T i f l st) (hi : i < 20) : -(2 ^ 40) ≤ st ∧ st ≤ 2 ^ 40 ∧ 0 ≤ l := by
  obtain ⟨_, hl, _, h1, h2⟩ := h
  have e : (2 : Int) ^ i ≤ 2 ^ 20 := by exact_mod_cast Nat.pow_le_pow_right (by decide : 0 < 2) (Nat.le_of_lt hi)
  omega
theorem prod_turn {T : Int} {i : Nat} {f l st r p q : Int} (h : ProdP T i f l st) (hr : r = l.fmod 2) (hp : p = st * r) (hq : q = l.fdiv 2) : ProdP T (i + 1) (f + p) q (st + st) := by
  obtain ⟨h1, h2, h3, h4, h5⟩ := h
  have e := Int.mul_fdiv_add_fmod l 2
  rw [← hr, ← hq] at e
  have hr0 : 0 ≤ r := by rw [hr]; exact Int.fmod_nonneg_of_pos l (by decide)
  have hq0 : 0 ≤ q := by rw [hq]; exact Int.fdiv_nonneg h2 (by decide)
  have e2 : (2 : Int) ^ (i + 1) = 2 ^ i * 2 := Int.pow_succ 2 i
  have hpos : (0 : Int) < 2 ^ i := Int.pow_pos (by decide)
  refine ⟨?_, hq0, ?_, ?_, ?_⟩
  · rw [hp, ← h1, ← e]
    have g1 : st * (2 * q + r) = 2 * (st * q) + st * r := by rw [Int.mul_add, Int.mul_left_comm]
    have g2 : (st + st) * q = st * q + st * q := Int.add_mul _ _ _
    rw [g1, g2]
    omega
  · rw [e2]
    have h6 : q * 2 * 2 ^ i ≤ l * 2 ^ i := Int.mul_le_mul_of_nonneg_right (by omega) (by omega)
    have h7 : q * (2 ^ i * 2) = q * 2 * 2 ^ i := by rw [Int.mul_comm (2 ^ i) 2, Int.mul_assoc]
    rw [h7]
    exact Int.lt_of_le_of_lt h6 h3
  · rw [e2]; omega
  · rw [e2]; omega
theorem prod_end {T f l st : Int} (h : ProdP T 20 f l st) : f = T := by
  obtain ⟨h1, h2, h3, _, _⟩ := h
  have : l = 0 := by omega
  subst this
  omega
def ProdC (w : World) (K : Frag) (p' : Program) (loose : List Str) (mean : ExcName → Option Value) (mg mb : Str → Option Value) (f : Addr) : Prop :=
  ∀ (dp un : Nat) (gd : Option (List Code)) (cn : Str) (cs : Scope) (a : Addr) (ccd : Value) (cl : List (Str × Addr)) (outer : List Env) (A₀ : Around) (base h₀ : Heap) (L : Addr) (m : Str → Option Value) (news : Led) (s : Shared) (one oth : Int) (t1 t2 : Tok)
    (Q E : Value → Shared → Prop),
    Below A₀ base outer h₀ → Fr h₀ L s.heap m → K.In h₀ → News h₀ L s.heap news → Top p' loose mean mg mb h₀ → cs.kind = .function →
    dp + 8 < recursionLimit → un + 64 < cLine → -(2 ^ 20) ≤ one → one ≤ 2 ^ 20 → -(2 ^ 20) < oth → oth < 2 ^ 20 →
    (∀ t h' tk', Fr h₀ L h' m → News h₀ L h' news → Q (.int (one * oth) t) { s with heap := h', toks := tk' }) →
    wpAny (model Challenge.rw_xm0805_01.row.prog w) (ktrTop dp un gd cn cs L a ccd cl outer) (call (.ref f) [.int one t1, .int oth t2]) Q E s
theorem prod_ret {T f l st : Int} {t : Tok} {h₀ h' : Heap} {L : Addr} {m : Str → Option Value} {news : Led} {tk' : Nat} {s : Shared} {Q : Value → Shared → Prop} (hret : ∀ t h' tk', Fr h₀ L h' m → News h₀ L h' news → Q (.int T t) { s with heap := h', toks := tk' })
    (h : ProdP T 20 f l st) (F : Fr h₀ L h' m) (N : News h₀ L h' news) : Q (.int f t) { s with heap := h', toks := tk' } := by
  rw [prod_end h]; exact hret t h' tk' F N
def TellT (a : Int) : Prop := True
theorem rangeT {T : Int} (tl : TellT T) {prog : Program} {w : World} {A : Around} {E : Value → Shared → Prop} {s : Shared} {env : Env} {h₀ : Heap} {x : Str} {body : List Stmt} {Q : Flow → Shared → Prop} {r : Addr} {a₀ b₀ : Int} {t₀ u₀ v₀ : Tok} {n : Nat} {m₀ : Str → Option Value} {news : Led} {c1 c2 c3 : Int} {t1 t2 t3 : Tok}
    (hh : A.handled = none) (hr : IsRange s.heap r a₀ b₀ 1 t₀ u₀ v₀) (hsmall : Builtin.Range.small a₀ b₀ 1 = true) (hn : Builtin.Range.rangeSize a₀ b₀ 1 = (n : Int)) (F : Fr h₀ env.locals s.heap m₀) (N : News h₀ env.locals s.heap news)
    (e1 : m₀ (Str.ofString "found") = some (.int c1 t1)) (e2 : m₀ (Str.ofString "left") = some (.int c2 t2)) (e3 : m₀ (Str.ofString "step") = some (.int c3 t3)) (hP : ProdP T 0 c1 c2 c3)
    (turn : ∀ i k t a ta b tb c tc (u : Str → Option Value) h tk own, i < n → OwnOff own (news.map (·.1)) → ProdP T i a b c → Fr h₀ env.locals h (fun z => if z = x then some (.int k t) else if z = Str.ofString "found" then some (.int a ta) else if z = Str.ofString "left" then some (.int b tb) else if z = Str.ofString "step" then some (.int c tc) else u z) → News h₀ env.locals h (news ++ own) →
      wpAny (model prog w) A (execs body env) (InvPostN h₀ env.locals (fun m' nx => nx = news ∧ Loop3 (Str.ofString "found") (Str.ofString "left") (Str.ofString "step") (ProdP T (i + 1)) m') own (news.map (·.1)) { s with heap := h, toks := tk } Q) E { s with heap := h, toks := tk })
    (done : ∀ a ta b tb c tc (u : Str → Option Value) h tk, ProdP T n a b c → Fr h₀ env.locals h (fun z => if z = Str.ofString "found" then some (.int a ta) else if z = Str.ofString "left" then some (.int b tb) else if z = Str.ofString "step" then some (.int c tc) else u z) → News h₀ env.locals h news → Q .next { s with heap := h, toks := tk }) :
    wpAny (model prog w) A (pyIter (.ref r)) (fun it s₂ => LoopAtV prog w A h₀ env x body Q E it s₂) E s := range3 _ _ _ (ProdP T) hh hr hsmall hn F N e1 e2 e3 hP turn done

local macro_rules | `(tactic| walk_at "binaryOp Mod int int") => `(tactic| (k_here; with_reducible show wpAny _ _ (binaryOp .Mod (.int _ _) (.int _ _)) _ _ _; refine m_mod (by omega) ?_; intro r' hr' h0' h1'))
local macro_rules | `(tactic| walk_at "binaryOp FloorDiv int int") => `(tactic| (k_here; with_reducible show wpAny _ _ (binaryOp .FloorDiv (.int _ _) (.int _ _)) _ _ _; refine m_div (by omega) (by omega) (by omega) ?_; intro q' hq' h0'))
local macro_rules | `(tactic| walk_at "binaryOp Mult int int") => `(tactic| (k_here; with_reducible show wpAny _ _ (binaryOp .Mult (.int _ _) (.int _ _)) _ _ _; refine m_mul (by omega) (by omega) ?_; intro q' hq'))
local macro_rules | `(tactic| walk_at "exec For Name Call cons nil") => `(tactic| (k_here; (rename Fr _ _ _ _ => lF'); (with_unfolding_all refine' For_invVF lF' ?k1 ?k2 ?_; (case k1 => exact rfl); (case k2 => exact rfl); k_whole)))
local macro_rules | `(tactic| walk_at "pyIter ref") => `(tactic| (k_here; (with_reducible show wpAny _ _ (pyIter (Value.ref _)) (fun it s₂ => LoopAtV _ _ _ _ _ _ _ _ _ it s₂) _ _); k_dflt (refine' rangeT (by assumption) (by rfl) (by assumption) (small_one (by omega) (by omega) (by omega) (by omega)) (rangeSize_nat _ _) (by k_asm) (by k_asm) (by with_unfolding_all rfl) (by with_unfolding_all rfl) (by with_unfolding_all rfl) ?_ ?_ ?_); (refine prod_start rfl (by omega) (by omega) (by split <;> omega) (by split <;> omega) ?_; first | exact Or.inl ⟨by omega, rfl, by split <;> omega⟩ | exact Or.inr ⟨by omega, rfl, by split <;> omega⟩); (intro i' k' t' a' ta' b' tb' c' tc' u' h' tk' own' hi' ho' hp' F' N'); (try simp only [List.nil_append, List.cons_append] at N'); (have hb' := prod_bounds hp' (by omega)); (obtain ⟨hb1', hb2', hb3'⟩ := hb'); rotate_left; (intro a' ta' b' tb' c' tc' u' h' tk' hp' F' N'); rotate_left))
local macro_rules | `(tactic| walk_at "InvEndN") => `(tactic| (k_here; (refine' InvEndN.intro ?F ?N ⟨rfl, _, _, _, _, _, _, ?m1, ?m2, ?m3, ?p⟩ rfl ?s1 ?s2); (case F => k_asm); (case N => k_asm); (case m1 => with_unfolding_all rfl); (case m2 => with_unfolding_all rfl); (case m3 => with_unfolding_all rfl); (case p => exact prod_turn (by assumption) (by assumption) (by assumption) (by assumption)); (case s1 => kcj_in); (case s2 => kcj_in)))
theorem prod_holds (w : World) (loose : List Str) (mean : ExcName → Option Value) (mg mb : Str → Option Value) : ProdC w (hd.heap_39 w.params) hd.view_39 loose mean mg mb 108 := by
  unfold ProdC
  k_fill
  intro dp un gd cn cs a ccd cl outer A₀ base h₀ L m news s one oth t1 t2 Q E B F X N T hk hd hu h1 h2 h3 h4 hret
  have tl : TellT (one * oth) := True.intro
  refine wpAny_call ?_
  k_dflt cell_enter
  k_steps
  all_goals (refine' prod_ret (Q := Q) (s := s) hret ?e1 ?e2 ?e3; (case e2 => k_asm); (case e3 => first | k_asm | (refine' cb_drop ?cbN ?cbS; (case cbN => assumption); (case cbS => kcj_all))); (case e1 => assumption))
end Mine
end

-- part Q0
section
namespace Mine
section
variable {w : World} {K : Frag} {p : Program} {loose : List Str} {mean : ExcName → Option Value} {mg mb : Str → Option Value} {f : Addr} {dp un : Nat} {gd : Option (List Code)} {cn : Str} {cs : Scope} {a : Addr} {ccd : Value} {cl : List (Str × Addr)} {outer : List Env} {A₀ : Around} {base h₀ : Heap} {L : Addr} {m : Str → Option Value} {news : Led} {g : Obj → Led} {s : Shared} {d : Addr} {x : Int} {tx : Tok} {y : Int} {ty : Tok} {n : Nat} {top : Int} {tt : Tok} {Q E : Value → Shared → Prop}
theorem fr_but1 {s : Shared} {h' : Heap} (F : Fr h₀ L s.heap m) (hk : KeepBut s.heap h' [d]) (hL : d ≠ L) (h0 : h₀.get? d = none) : Fr h₀ L h' m := by
  obtain ⟨oL, es, ep, hl, r⟩ := F.ns
  exact ⟨⟨oL, es, ep, hk L oL (by simpa using fun e => hL e.symm) hl, r⟩, fun b o e => hk b o (fun q => by rw [List.mem_singleton.mp q, h0] at e; cases e) (F.keep b o e), F.above⟩
theorem news_but1 {s : Shared} {h' : Heap} {o o' : Obj} (N : News h₀ L s.heap news) (hU : UpdF d o news g) (hk : KeepBut s.heap h' [d]) (hd : h'.get? d = some o') : News h₀ L h' (g o') := by
  obtain ⟨pre, post, e1, e2, h1, h2⟩ := hU.split
  rw [e2]
  rw [e1] at N
  intro q hq
  rcases List.mem_append.mp hq with hq | hq
  · have P := N q (List.mem_append_left _ hq)
    exact ⟨hk _ _ (by simpa using h1 q hq) P.1, P.2⟩
  · rcases List.mem_cons.mp hq with rfl | hq
    · exact ⟨hd, (N (d, o) (by simp)).2⟩
    · have P := N q (List.mem_append_right _ (.tail _ hq))
      exact ⟨hk _ _ (by simpa using h2 q hq) P.1, P.2⟩
theorem mem_updF {o : Obj} (hU : UpdF d o news g) : (d, o) ∈ news := by
  obtain ⟨pre, post, e1, _, _, _⟩ := hU.split
  rw [e1]; simp
theorem take_use (C : TakeC w K p loose mean mg mb f) (B : Below A₀ base outer h₀) (F : Fr h₀ L s.heap m) (X : K.In h₀) (N : News h₀ L s.heap news) (T : Top p loose mean mg mb h₀) (hk : cs.kind = .function)
    (hU : UpdF d (listOf [.int x tx, .int y ty].toArray n) news g) (hd : dp + 1 < recursionLimit) (hu : un + 8 < cLine) (hx : 0 ≤ x) (hy : 0 ≤ y) (hy2 : y < 2147483647) (ht : 0 < top) (ht2 : top < 1073741824)
    (ret : ∀ k t x' tx' y' ty' h' tk', 0 ≤ k → k < top → 0 ≤ x' → 0 ≤ y' → y' < 2147483647 → Fr h₀ L h' m → News h₀ L h' (g (listOf [.int x' tx', .int y' ty'].toArray n)) → Q (.int k t) { s with heap := h', toks := tk' }) :
    wpAny (model Challenge.rw_xm0805_01.row.prog w) (ktrTop dp un gd cn cs L a ccd cl outer) (call (.ref f) [.ref d, .int top tt]) Q E s := by
  have hm := mem_updF hU
  refine wpAny_mono (C dp un gd cn cs a ccd cl outer A₀ base h₀ L m s d x tx y ty n top tt E B F X (fun q hq => by rw [List.mem_singleton.mp hq]; exact N _ hm) T hk hd hu hx hy hy2 ht ht2) (fun v s' hv => ?_) fun _ _ e => e
  obtain ⟨k, t, x', tx', y', ty', h', tk', rfl, e1, e2, e3, e4, e5, rfl, hk', hd'⟩ := hv
  exact ret k t x' tx' y' ty' h' tk' e1 e2 e3 e4 e5 (fr_but1 F hk' (N _ hm).2.1 (N _ hm).2.2) (news_but1 N hU hk' hd')
end
def PoolRes (h₀ : Heap) (L : Addr) (m : Str → Option Value) (news : Led) (s : Shared) (v : Value) (s' : Shared) : Prop :=
  ∃ (d : Addr) (x : Int) (tx : Tok) (y : Int) (ty : Tok) (n : Nat) (h' : Heap) (tk : Nat), v = .ref d ∧ s' = { s with heap := h', toks := tk } ∧ 0 ≤ x ∧ 0 ≤ y ∧ y < 2147483647 ∧ Fr h₀ L h' m ∧ News h₀ L h' ((d, listOf [.int x tx, .int y ty].toArray n) :: news) ∧ ∀ p ∈ news, p.1 < d
def PoolC (w : World) (K : Frag) (p' : Program) (loose : List Str) (mean : ExcName → Option Value) (mg mb : Str → Option Value) (f : Addr) : Prop :=
  ∀ (dp un : Nat) (gd : Option (List Code)) (cn : Str) (cs : Scope) (a : Addr) (ccd : Value) (cl : List (Str × Addr)) (outer : List Env) (A₀ : Around) (base h₀ : Heap) (L : Addr) (m : Str → Option Value) (news : Led) (s : Shared) (l : Addr) (vs : List Value) (ns : List Int)
    (E : Value → Shared → Prop),
    Below A₀ base outer h₀ → Fr h₀ L s.heap m → K.In h₀ → News h₀ L s.heap news → Top p' loose mean mg mb h₀ → cs.kind = .function →
    dp + 8 < recursionLimit → un + 64 < cLine → base.IsList l vs.toArray → IntsAre vs ns → ns.length ≤ 63 →
    wpAny (model Challenge.rw_xm0805_01.row.prog w) (ktrTop dp un gd cn cs L a ccd cl outer) (call (.ref f) [.ref l]) (PoolRes h₀ L m news s) E s
def PoolEnd (s : Shared) (g : Heap) (news : Led) (fl : Flow) (s' : Shared) : Prop :=
  ∃ (d : Addr) (x : Int) (tx : Tok) (y : Int) (ty : Tok) (n : Nat) (h' : Heap) (tk : Nat) (L' : Addr) (m' : Str → Option Value), fl = .ret (.ref d) ∧ s' = { s with heap := h', toks := tk } ∧ 0 ≤ x ∧ 0 ≤ y ∧ y < 2147483647 ∧ Fr g L' h' m' ∧ News g L' h' ((d, listOf [.int x tx, .int y ty].toArray n) :: news) ∧ ∀ p ∈ news, p.1 < d
theorem pool_fin {s : Shared} {g h' : Heap} {news : Led} {d : Addr} {x : Int} {tx : Tok} {y : Int} {ty : Tok} {n : Nat} {tk : Nat} {L' : Addr} {m' : Str → Option Value} (F : Fr g L' h' m') (N : News g L' h' ((d, listOf [.int x tx, .int y ty].toArray n) :: news)) (h1 : 0 ≤ x) (h2 : 0 ≤ y) (h3 : y < 2147483647) (h4 : ∀ p ∈ news, p.1 < d) :
    PoolEnd s g news (.ret (.ref d)) { s with heap := h', toks := tk } := ⟨d, x, tx, y, ty, n, h', tk, L', m', rfl, rfl, h1, h2, h3, F, N, h4⟩
theorem great_mul {g : Int} {n : Nat} : 0 ≤ g * (if decide ((10 : Int) ^ n ≤ g) = true then 1 else 0) := by
  have h : (0 : Int) < 10 ^ n := Int.pow_pos (by decide)
  by_cases e : (10 : Int) ^ n ≤ g
  · rw [if_pos (decide_eq_true e)]; omega
  · rw [if_neg (by simpa using e)]; omega
section
local macro_rules | `(tactic| walk_at "binaryOp Mod int int") => `(tactic| (k_here; with_reducible show wpAny _ _ (binaryOp .Mod (.int _ _) (.int _ _)) _ _ _; refine m_mod (by omega) ?_; intro r' hr' h0' h1'))
theorem pool_holds (w : World) (loose : List Str) (mean : ExcName → Option Value) (mg mb : Str → Option Value) : PoolC w (hd.heap_39 w.params) hd.view_39 loose mean mg mb 87 := by
  unfold PoolC
  k_fill
  intro dp un gd cn cs a ccd cl outer A₀ base h₀ L m news s l vs ns E B F X N T hk hd hu hl hi hn
  refine wpAny_call ?_
  k_dflt (refine' code_def ?k1 ?k2 ?k3 ?k4 ?k5 ?kA ?kF ?kK ?k6 ?k7 ?k8 ?k9 ?kB ?_ ?c2 ?c3 ?c4 ?c5; (case kA => exact rfl); (case kF => exact rfl); (case kK => assumption); (case k1 => k_asm); (case k2 => k_asm); (case k3 => k_asm); (case k4 => k_asm); (case k5 => k_asm); (case k6 => k_is); (case k7 => k_is); (case k8 => ktr_room); (case k9 => exact BindsTo.of_eq rfl); (case c5 => decide); (case kB => exact locs rfl); (case c2 => exact rfl); (case c3 => exact rfl); (case c4 => exact rfl); k_whole)
  intro g' L' h' FG' F' N' B' X' T'
  (try dsimp only)
  refine wpAny_mono (Q := PoolEnd s g' news) ?_ ?_ (fun _ _ e => e)
  · (try k_lift B')
    (try k_fold)
    k_steps
    all_goals (refine' pool_fin ?pF ?pN ?pa ?pb ?pc ?pe; (case pF => k_asm); (case pN => k_asm); (case pa => exact great_mul); (case pb => assumption); (case pc => assumption); (case pe => assumption))
  · rintro fl s' ⟨d, x, tx, y, ty, n, h1, tk1, L1, m1, rfl, rfl, e1, e2, e3, F1, N1, lt⟩
    exact ⟨L1, m1, _, F1, N1, fun F2 N2 => ⟨d, x, tx, y, ty, n, h1, tk1, rfl, rfl, e1, e2, e3, F2, N2, lt⟩⟩
end
end Mine
end

-- part R0
section
namespace Mine
abbrev tupOf (its : Array Value) (n : Nat) : Obj := { cls := .type "tuple", data := .seq its n }
inductive PlanesIn (news : Led) : List Value → List (Int × Int × Addr) → Prop
  | nil : PlanesIn news [] []
  | cons {p : Addr} {wd ht : Int} {R : Addr} {vs : List Value} {qs : List (Int × Int × Addr)} : PlaneIn news p wd ht R → PlanesIn news vs qs → PlanesIn news (.ref p :: vs) ((wd, ht, R) :: qs)
theorem PlanesIn.mono {news news' : Led} (hs : ∀ p ∈ news, p ∈ news') : ∀ {vs : List Value} {qs : List (Int × Int × Addr)}, PlanesIn news vs qs → PlanesIn news' vs qs
  | _, _, .nil => .nil
  | _, _, .cons h r => .cons (h.mono hs) (PlanesIn.mono hs r)
theorem PlanesIn.length {news : Led} : ∀ {vs : List Value} {qs : List (Int × Int × Addr)}, PlanesIn news vs qs → vs.length = qs.length
  | _, _, .nil => rfl
  | _, _, .cons _ r => by simp [r.length]
theorem PlanesIn.get {news : Led} : ∀ {vs : List Value} {qs : List (Int × Int × Addr)}, PlanesIn news vs qs → ∀ (i : Nat) (v : Value), vs[i]? = some v → ∃ p wd ht R, v = .ref p ∧ qs[i]? = some (wd, ht, R) ∧ PlaneIn news p wd ht R
  | _, _, .nil, _, _, e => by simp at e
  | _, _, .cons h _, 0, _, e => by simp at e; exact ⟨_, _, _, _, e.symm, rfl, h⟩
  | _, _, .cons _ r, k + 1, v, e => by simpa using r.get k v (by simpa using e)
inductive TupsIn (news : Led) : List Value → List (Int × Int × Addr) → Prop
  | nil : TupsIn news [] []
  | cons {a : Addr} {wd ht : Int} {R : Addr} {t1 t2 : Tok} {n : Nat} {vs : List Value} {qs : List (Int × Int × Addr)} : (a, tupOf [.int wd t1, .int ht t2, .ref R].toArray n) ∈ news → TupsIn news vs qs → TupsIn news (.ref a :: vs) ((wd, ht, R) :: qs)
theorem TupsIn.mono {news news' : Led} (hs : ∀ p ∈ news, p ∈ news') : ∀ {vs : List Value} {qs : List (Int × Int × Addr)}, TupsIn news vs qs → TupsIn news' vs qs
  | _, _, .nil => .nil
  | _, _, .cons h r => .cons (hs _ h) (TupsIn.mono hs r)
theorem TupsIn.append {news : Led} : ∀ {vs ws : List Value} {qs rs : List (Int × Int × Addr)}, TupsIn news vs qs → TupsIn news ws rs → TupsIn news (vs ++ ws) (qs ++ rs)
  | _, _, _, _, .nil, k => k
  | _, _, _, _, .cons h r, k => .cons h (r.append k)
def TupInv (news : Led) (qs : List (Int × Int × Addr)) (i : Nat) (ys : List Value) (nw : Led) : Prop := ∃ new, nw = new ++ news ∧ Apart new news ∧ TupsIn new ys (qs.take i)
theorem TupInv.start (news : Led) (qs : List (Int × Int × Addr)) : TupInv news qs 0 [] news := ⟨[], rfl, Apart.nil, by rw [List.take_zero]; exact .nil⟩
theorem TupInv.step {new news : Led} {qs : List (Int × Int × Addr)} {i : Nat} {ys : List Value} {D : Addr} {wd ht : Int} {R : Addr} {t1 t2 : Tok} {n : Nat} (ap : Apart new news) (hr : TupsIn new ys (qs.take i)) (hg : qs[i]? = some (wd, ht, R)) (l1 : ∀ p ∈ news, p.1 < D) :
    TupInv news qs (i + 1) (ys ++ [.ref D]) ((D, tupOf [.int wd t1, .int ht t2, .ref R].toArray n) :: (new ++ news)) := by
  refine ⟨_ :: new, rfl, Apart.cons l1 ap, ?_⟩
  rw [List.take_add_one, hg]
  exact (hr.mono sub_cons).append (.cons (.head _) .nil)
section
variable {prog : Program} {w : World} {A : Around} {h₀ : Heap} {L : Addr} {m : Str → Option Value} {env : Env} {elt : Expr} {x : Str} {scope : Scope} {cl : List (Str × Addr)} {s : Shared} {S : Led → Prop} {P : Nat → Value → Prop} {Fin : List Value → Led → Prop}
theorem rest_tups {news news₀ : Led} {vs : List Value} {qs : List (Int × Int × Addr)} (h₁ : PlanesIn news₀ vs qs) (hs : ∀ p ∈ news₀, p ∈ news)
    (turn : ∀ i ys new I oI C oC D m₂ h tk p wd ht R dp k1 t1 tw k2 t2 th k3 t3 nd (E' : Value → Shared → Prop), Apart new news → TupsIn new ys (qs.take i) → qs[i]? = some (wd, ht, R) → (p, instObj 52 dp) ∈ news → (dp, dictOf [⟨k1, .str (Str.ofString "width") t1, .int wd tw⟩, ⟨k2, .str (Str.ofString "height") t2, .int ht th⟩, ⟨k3, .str (Str.ofString "rows") t3, .ref R⟩] nd) ∈ news →
      LCg.NsObj oC m₂ → m₂ x = some (.ref p) → Fr h₀ L h m → News h₀ L h ((I, oI) :: (C, oC) :: (D, LCg.lst ys) :: (new ++ news)) → LCg.Off3 I C D (new ++ news) →
      wpAny (model prog w) A (eval elt (compEnvC scope cl C env)) (LCg.CompEnd h₀ L m { s with heap := h, toks := tk } I oI C oC D (LCg.lst ys) S (fun y nw' => TupInv news qs (i + 1) (ys ++ [y]) nw')) E' { s with heap := h, toks := tk })
    (fin : ∀ ys new, Apart new news → TupsIn new ys qs → Fin ys (new ++ news)) : LCg.CompRest prog w A h₀ L m env elt x scope cl s S (fun i v => vs.toArray[i]? = some v) Fin vs.toArray.size 0 [] news := by
  have h := h₁.mono hs
  refine rest_inv (TupInv news qs) (TupInv.start news qs) ?_ ?_
  · rintro i v ys nw I oI C oC D m₂ h' tk E' hi hv ⟨new, rfl, ap, hr⟩ hC hx F N off ne
    obtain ⟨p, wd, ht, R, rfl, hg, dp, k1, t1, tw, k2, t2, th, k3, t3, nd, m1, m2⟩ := h.get i v (by simpa using hv)
    exact turn i ys new I oI C oC D m₂ h' tk p wd ht R dp k1 t1 tw k2 t2 th k3 t3 nd E' ap hr hg m1 m2 hC hx F N off
  · rintro ys nw ⟨new, rfl, ap, hr⟩
    refine fin ys new ap ?_
    rw [List.size_toArray, h.length, List.take_length] at hr
    exact hr
end
def RowsRes (h₀ : Heap) (L : Addr) (m : Str → Option Value) (news : Led) (s : Shared) (qs : List (Int × Int × Addr)) (v : Value) (s' : Shared) : Prop :=
  ∃ (new : Led) (D : Addr) (ys : List Value) (n : Nat) (h' : Heap) (tk : Nat), v = .ref D ∧ s' = { s with heap := h', toks := tk } ∧ Fr h₀ L h' m ∧ News h₀ L h' (new ++ news) ∧ Apart new news ∧ (D, listOf ys.toArray n) ∈ new ∧ TupsIn new ys qs
def RowsC (w : World) (K : Frag) (p' : Program) (loose : List Str) (mean : ExcName → Option Value) (mg mb : Str → Option Value) (f : Addr) : Prop :=
  ∀ (dp un : Nat) (gd : Option (List Code)) (cn : Str) (cs : Scope) (a : Addr) (ccd : Value) (cl : List (Str × Addr)) (outer : List Env) (A₀ : Around) (base h₀ : Heap) (L : Addr) (m : Str → Option Value) (news : Led) (s : Shared) (P : Addr) (vs : List Value) (nP : Nat) (qs : List (Int × Int × Addr))
    (E : Value → Shared → Prop),
    Below A₀ base outer h₀ → Fr h₀ L s.heap m → K.In h₀ → News h₀ L s.heap news → Top p' loose mean mg mb h₀ → cs.kind = .function →
    dp + 8 < recursionLimit → un + 64 < cLine → (P, listOf vs.toArray nP) ∈ news → PlanesIn news vs qs → vs.length ≤ 100 →
    wpAny (model Challenge.rw_xm0805_01.row.prog w) (ktrTop dp un gd cn cs L a ccd cl outer) (call (.ref f) [.ref P]) (RowsRes h₀ L m news s qs) E s
def RowsEnd (s : Shared) (g : Heap) (news : Led) (qs : List (Int × Int × Addr)) (fl : Flow) (s' : Shared) : Prop :=
  ∃ (new : Led) (D : Addr) (ys : List Value) (n : Nat) (h' : Heap) (tk : Nat) (L' : Addr) (m' : Str → Option Value), fl = .ret (.ref D) ∧ s' = { s with heap := h', toks := tk } ∧ Fr g L' h' m' ∧ News g L' h' (new ++ news) ∧ Apart new news ∧ (D, listOf ys.toArray n) ∈ new ∧ TupsIn new ys qs
theorem rows_fin {s : Shared} {g h' : Heap} {news new : Led} {qs : List (Int × Int × Addr)} {D : Addr} {ys : List Value} {tk : Nat} {L' : Addr} {m' : Str → Option Value} (F : Fr g L' h' m') (N : News g L' h' ((D, LCg.lst ys) :: (new ++ news))) (ap : Apart new news) (ht : TupsIn new ys qs) (ho : ∀ p ∈ news, p.1 ≠ D) :
    RowsEnd s g news qs (.ret (.ref D)) { s with heap := h', toks := tk } :=
  ⟨(D, LCg.lst ys) :: new, D, ys, ys.length, h', tk, L', m', rfl, rfl, F, by simpa using N, Apart.cons' ho ap, .head _, ht.mono sub_cons⟩
theorem off1_mem {D : Addr} : ∀ {l : Led}, LCg.Off1 D l → ∀ p ∈ l, p.1 ≠ D
  | [], _, _, h => nomatch h
  | _ :: _, x, p, h => by
    rcases List.mem_cons.mp h with rfl | h
    · exact x.1
    · exact off1_mem x.2 p h
section
local macro_rules | `(tactic| k_lt $h:ident) => `(tactic| (have hAll9 := $h; replace $h := allLt_of $h; (try simp only [AllLt, and_true] at $h:ident)))
local macro_rules | `(tactic| k_room) => `(tactic| ((try simp only [depth_under_make, depth_under_kw, depth_in1, depth_deeper, depth_caller]); (try dsimp only [ktrTop]); omega))
local macro_rules | `(tactic| k_mem) => `(tactic| kcj_m)
local macro_rules | `(tactic| walk_at "eval ListComp") => `(tactic| (k_here; k_dflt (refine LCg.ListComp_U (F₀ := by k_asm) (by with_unfolding_all rfl) (by decide) (by rfl) (by decide) (by rfl) ?_)))
local macro_rules | `(tactic| walk_at "CompSrc") => `(tactic| (k_here; k_dflt (refine LCg.CompSrc.ledger (by rfl) (by k_asm) (by k_asm) (by kcj_m) (by assumption) ?_); (intro g'); (refine' rest_tups (by assumption) (by kcj_in) ?_ ?_); (intro i' ys' new' I' oI' C' oC' D' m' h' tk' p' wd' ht' R' dp' k1' t1' tw' k2' t2' th' k3' t3' nd' E' ap' hr' hg' hm1' hm2' hC' hx' F' N' off'); (try k_fold); rotate_left; (intro ys' new' ap' hr'); rotate_left))
local macro_rules | `(tactic| walk_at "CompEnd") => `(tactic| (k_here; (refine' end_one ?eF ?eN ?eq ?eI ?eC ?eD ?es ?en1 ?en2 ?en3 ?eoff ?eS ?er); (case eF => k_asm); (case eN => k_asm); (case eq => exact List.mem_cons_self); (case eI => k_dflt kcj_m); (case eC => k_dflt kcj_m); (case eD => k_dflt kcj_m); (case eoff => k_asm); (case es => kcj_in); (case en1 => k_ne); (case en2 => k_ne); (case en3 => k_ne); (case eS => first | exact True.intro | exact Or.inr ⟨_, by k_dflt kcj_m, rfl, _, rfl⟩); (case er => exact TupInv.step (by assumption) (by assumption) (by assumption) (fun p hp => (by assumption : ∀ p ∈ _, p.1 < _) p (by kcj_m)))))
theorem rows_holds (w : World) (loose : List Str) (mean : ExcName → Option Value) (mg mb : Str → Option Value) : RowsC w (hd.heap_39 w.params) hd.view_39 loose mean mg mb 113 := by
  unfold RowsC
  k_fill
  intro dp un gd cn cs a ccd cl outer A₀ base h₀ L m news s P vs nP qs E B F X N T hk hd hu hP hpl hlen
  have hsz : vs.toArray.size ≤ sizeLine := by rw [List.size_toArray, PySem.sizeLine_eq]; omega
  refine wpAny_call ?_
  k_dflt (refine' code_def ?k1 ?k2 ?k3 ?k4 ?k5 ?kA ?kF ?kK ?k6 ?k7 ?k8 ?k9 ?kB ?_ ?c2 ?c3 ?c4 ?c5; (case kA => exact rfl); (case kF => exact rfl); (case kK => assumption); (case k1 => k_asm); (case k2 => k_asm); (case k3 => k_asm); (case k4 => k_asm); (case k5 => k_asm); (case k6 => k_is); (case k7 => k_is); (case k8 => ktr_room); (case k9 => exact BindsTo.of_eq rfl); (case c5 => decide); (case kB => exact locs rfl); (case c2 => exact rfl); (case c3 => exact rfl); (case c4 => exact rfl); k_whole)
  intro g' L' h' FG' F' N' B' X' T'
  (try dsimp only)
  refine wpAny_mono (Q := RowsEnd s g' news qs) ?_ ?_ (fun _ _ e => e)
  · (try k_lift B')
    (try k_fold)
    k_steps
    all_goals (refine' rows_fin ?pF ?pN ?pa ?pb ?pc; (case pF => k_asm); (case pN => k_asm); (case pa => assumption); (case pb => assumption); (case pc => exact fun p hp => off1_mem (by assumption) p (by kcj_m)))
  · rintro fl s' ⟨new, D, ys, n, h1, tk1, L1, m1, rfl, rfl, F1, N1, e1, e2, e3⟩
    exact ⟨L1, m1, _, F1, N1, fun F2 N2 => ⟨new, D, ys, n, h1, tk1, rfl, rfl, F2, N2, e1, e2, e3⟩⟩
end
end Mine
end

-- part O0
section
namespace Mine
structure DrawnOne (s : Shared) (d : Addr) (n : Nat) (a0 a1 : Addr) (v : Value) (s' : Shared) : Prop where
  out : ∃ (b : Addr) (x' : Int) (tx : Tok) (y' : Int) (ty : Tok) (h' : Heap) (tk : Nat), v = .ref b ∧ (b = a0 ∨ b = a1) ∧ 0 ≤ x' ∧ 0 ≤ y' ∧ y' < 2147483647 ∧ s' = { s with heap := h', toks := tk } ∧
    KeepBut s.heap h' [d] ∧ h'.get? d = some (listOf #[.int x' tx, .int y' ty] n)
def OneC (w : World) (K : Frag) (p : Program) (loose : List Str) (mean : ExcName → Option Value) (mg mb : Str → Option Value) (f : Addr) : Prop :=
  ∀ (dp un : Nat) (gd : Option (List Code)) (cn : Str) (cs : Scope) (a : Addr) (ccd : Value) (cl : List (Str × Addr)) (outer : List Env) (A₀ : Around) (base h₀ : Heap) (L : Addr) (m : Str → Option Value) (s : Shared) (d : Addr) (x : Int) (tx : Tok) (y : Int) (ty : Tok) (n : Nat) (t : Addr) (a0 a1 : Addr) (nt : Nat)
    (E : Value → Shared → Prop),
    Below A₀ base outer h₀ → Fr h₀ L s.heap m → K.In h₀ → News h₀ L s.heap [(t, listOf [.ref a0, .ref a1].toArray nt), (d, listOf [.int x tx, .int y ty].toArray n)] → Top p loose mean mg mb h₀ → cs.kind = .function →
    dp + 8 < recursionLimit → un + 64 < cLine → 0 ≤ x → 0 ≤ y → y < 2147483647 → (@Ne Nat t d) →
    wpAny (model Challenge.rw_xm0805_01.row.prog w) (ktrTop dp un gd cn cs L a ccd cl outer) (call (.ref f) [.ref d, .ref t]) (DrawnOne s d n a0 a1) E s
def OneEnd (s : Shared) (g : Heap) (d : Addr) (n : Nat) (t : Addr) (nt : Nat) (a0 a1 : Addr) (fl : Flow) (s' : Shared) : Prop :=
  ∃ (b : Addr) (x' : Int) (tx : Tok) (y' : Int) (ty : Tok) (L' : Addr) (m' : Str → Option Value) (h' : Heap) (tk : Nat), fl = .ret (.ref b) ∧ (b = a0 ∨ b = a1) ∧ 0 ≤ x' ∧ 0 ≤ y' ∧ y' < 2147483647 ∧ s' = { s with heap := h', toks := tk } ∧
    Fr g L' h' m' ∧ News g L' h' [(t, listOf [.ref a0, .ref a1].toArray nt), (d, listOf [.int x' tx, .int y' ty].toArray n)]
theorem one_fin {s : Shared} {g h' : Heap} {d L' t : Addr} {n nt tk : Nat} {x' y' : Int} {tx ty : Tok} {a0 a1 b : Addr} {m' : Str → Option Value} (F : Fr g L' h' m') (N : News g L' h' [(t, listOf [.ref a0, .ref a1].toArray nt), (d, listOf [.int x' tx, .int y' ty].toArray n)])
    (h1 : b = a0 ∨ b = a1) (h3 : 0 ≤ x') (h4 : 0 ≤ y') (h5 : y' < 2147483647) : OneEnd s g d n t nt a0 a1 (.ret (.ref b)) { s with heap := h', toks := tk } :=
  ⟨_, _, _, _, _, _, _, _, _, rfl, h1, h3, h4, h5, rfl, F, N⟩
section
local macro_rules | `(tactic| k_mem) => `(tactic| kcj_m)
local macro_rules | `(tactic| k_room) => `(tactic| ((try simp only [depth_under_make, depth_under_kw, depth_in1, depth_deeper, depth_caller]); (try dsimp only [ktrTop]); omega))
local macro_rules | `(tactic| walk_at "call ref") => `(tactic| (k_here; k_dflt (refine' take_use ?uC ?uB ?uF ?uX ?uN ?uT ?uK ?uU ?ud ?uu ?ux ?uy ?uy2 ?ut ?ut2 ?_; (case uB => k_asm); (case uF => k_asm); (case uX => k_asm); (case uN => k_asm); (case uT => k_asm); (case uK => first | exact rfl | assumption); (case uU => k_updF); (case ud => k_room); (case uu => ktr_units); (case ux => omega); (case uy => omega); (case uy2 => omega); (case ut => omega); (case ut2 => omega); (case uC => exact take_holds _ _ _ _ _); intro k' t' x' tx' y' ty' h' tk' hk0' hk1' hx' hy' hz' F' N'; (try dsimp only at N'); (try dsimp only); (try k_fold))))
theorem one_holds (w : World) (loose : List Str) (mean : ExcName → Option Value) (mg mb : Str → Option Value) : OneC w (hd.heap_39 w.params) hd.view_39 loose mean mg mb 101 := by
  unfold OneC
  k_fill
  intro dp un gd cn cs a ccd cl outer A₀ base h₀ L m s d x tx y ty n t a0 a1 nt E B F X N T hk hd hu hx hy hy2 hne
  refine wpAny_call ?_
  k_dflt (refine' code_defG ?k1 ?k2 ?k3 ?k4 ?k5 ?kA ?kF ?kK ?k6 ?k7 ?k8 ?k9 ?kB ?_ ?c2 ?c3 ?c4 ?c5; (case kA => exact rfl); (case kF => exact rfl); (case kK => assumption); (case k1 => k_asm); (case k2 => k_asm); (case k3 => k_asm); (case k4 => k_asm); (case k5 => k_asm); (case k6 => k_is); (case k7 => k_is); (case k8 => ktr_room); (case k9 => exact BindsTo.of_eq rfl); (case c5 => decide); (case kB => exact locs rfl); (case c2 => exact rfl); (case c3 => exact rfl); (case c4 => exact rfl); k_whole)
  intro g' L' h' FG' F' N' B' X' T' kG'
  (try dsimp only)
  refine wpAny_mono (Q := OneEnd s g' d n t nt a0 a1) ?_ ?_ (fun _ _ e => e)
  · (try k_lift B')
    (try k_fold)
    k_steps
    all_goals (with_unfolding_all (show OneEnd s g' d n t nt a0 a1 _ _); refine' one_fin ?pF ?pN ?_ ?_ ?_ ?_; (case pF => k_asm); (case pN => k_asm))
    all_goals first | assumption | exact Or.inl rfl | exact Or.inr rfl | omega
  · rintro fl s' ⟨b, x', tx', y', ty', L1, m1, h1, tk1, rfl, e1, e3, e4, e5, rfl, F1, N1⟩
    refine ⟨L1, m1, _, F1, N1, fun _ _ => ?_⟩
    refine ⟨b, x', tx', y', ty', h1, tk1, rfl, e1, e3, e4, e5, rfl, fun b o hb e => ?_, (N1 _ (.tail _ (.head _))).1⟩
    by_cases hb2 : b = t
    · subst hb2
      rw [(N _ (.head _)).1] at e
      cases e
      exact (N1 _ (.head _)).1
    · exact F1.keep b o (kG' b o e (by
        intro hm
        simp only [List.map_cons, List.map_nil, List.mem_cons, List.not_mem_nil, or_false] at hm
        rcases hm with hm | hm
        · exact hb2 hm
        · exact hb (by rw [hm]; exact .head _)))
end
end Mine
end

-- part U0
section
namespace Mine
section
variable {w : World} {K : Frag} {p' : Program} {loose : List Str} {mean : ExcName → Option Value} {mg mb : Str → Option Value} {f : Addr} {dp un : Nat} {gd : Option (List Code)} {cn : Str} {cs : Scope} {a : Addr} {ccd : Value} {cl : List (Str × Addr)} {outer : List Env} {A₀ : Around} {base h₀ : Heap} {L : Addr} {m : Str → Option Value} {news : Led} {g : Obj → Led} {s : Shared} {d : Addr} {x : Int} {tx : Tok} {y : Int} {ty : Tok} {n : Nat} {Q E : Value → Shared → Prop}
theorem grey_use {P p : Addr} {wd ht : Int} {R : Addr} {rows : List (List Int)} {prec : Int} {tp : Tok} (C : GreyC w K p' loose mean mg mb f) (B : Below A₀ base outer h₀) (F : Fr h₀ L s.heap m) (X : K.In h₀) (N : News h₀ L s.heap news) (T : Top p' loose mean mg mb h₀) (hk : cs.kind = .function)
    (hd : dp + 8 < recursionLimit) (hu : un + 64 < cLine) (hP : ∃ rest nP, (P, listOf (.ref p :: rest).toArray nP) ∈ news) (hp : PlaneIn news p wd ht R) (hR : GridIn news R rows) (b1 : 1 ≤ wd) (b2 : wd ≤ 100) (b3 : 1 ≤ ht) (b4 : ht ≤ 100) (b5 : rows.length ≤ 100) (b6 : ∀ r ∈ rows, r.length ≤ 100) (b7 : 1 ≤ prec) (b8 : prec ≤ 100)
    (ret : ∀ new P' p1 p2 p3 R1 R2 R3 nn h' tk', Fr h₀ L h' m → News h₀ L h' (new ++ news) → Apart new news → (P', listOf [.ref p1, .ref p2, .ref p3].toArray nn) ∈ new → PlaneIn new p1 wd ht R1 → PlaneIn new p2 wd ht R2 → PlaneIn new p3 wd ht R3 →
      GridIn new R1 rows → GridIn new R2 (List.replicate ht.toNat (List.replicate wd.toNat (2 ^ (prec - 1).toNat))) → GridIn new R3 (List.replicate ht.toNat (List.replicate wd.toNat (2 ^ (prec - 1).toNat))) → Q (.ref P') { s with heap := h', toks := tk' }) :
    wpAny (model Challenge.rw_xm0805_01.row.prog w) (ktrTop dp un gd cn cs L a ccd cl outer) (call (.ref f) [.ref P, .int prec tp]) Q E s := by
  obtain ⟨rest, nP, hP⟩ := hP
  refine wpAny_mono (C dp un gd cn cs a ccd cl outer A₀ base h₀ L m news s P rest nP p wd ht R rows prec tp E B F X N T hk hd hu hP hp hR b1 b2 b3 b4 b5 b6 b7 b8) (fun v s' hv => ?_) fun _ _ e => e
  obtain ⟨new, P', p1, p2, p3, R1, R2, R3, nn, h', tk, rfl, rfl, F1, N1, ap, q1, q2, q3, q4, q5, q6, q7⟩ := hv
  exact ret new P' p1 p2 p3 R1 R2 R3 nn h' tk F1 N1 ap q1 q2 q3 q4 q5 q6 q7
theorem rows_use {P : Addr} {vs : List Value} {nP : Nat} {qs : List (Int × Int × Addr)} (C : RowsC w K p' loose mean mg mb f) (B : Below A₀ base outer h₀) (F : Fr h₀ L s.heap m) (X : K.In h₀) (N : News h₀ L s.heap news) (T : Top p' loose mean mg mb h₀) (hk : cs.kind = .function)
    (hd : dp + 8 < recursionLimit) (hu : un + 64 < cLine) (hP : (P, listOf vs.toArray nP) ∈ news) (hq : PlanesIn news vs qs) (b1 : vs.length ≤ 100)
    (ret : ∀ new D ys n h' tk', Fr h₀ L h' m → News h₀ L h' (new ++ news) → Apart new news → (D, listOf ys.toArray n) ∈ new → TupsIn new ys qs → Q (.ref D) { s with heap := h', toks := tk' }) :
    wpAny (model Challenge.rw_xm0805_01.row.prog w) (ktrTop dp un gd cn cs L a ccd cl outer) (call (.ref f) [.ref P]) Q E s := by
  refine wpAny_mono (C dp un gd cn cs a ccd cl outer A₀ base h₀ L m news s P vs nP qs E B F X N T hk hd hu hP hq b1) (fun v s' hv => ?_) fun _ _ e => e
  obtain ⟨new, D, ys, n, h', tk, rfl, rfl, F1, N1, ap, q1, q2⟩ := hv
  exact ret new D ys n h' tk F1 N1 ap q1 q2
theorem pool_use {l : Addr} {vs : List Value} {ns : List Int} (C : PoolC w K p' loose mean mg mb f) (B : Below A₀ base outer h₀) (F : Fr h₀ L s.heap m) (X : K.In h₀) (N : News h₀ L s.heap news) (T : Top p' loose mean mg mb h₀) (hk : cs.kind = .function)
    (hd : dp + 8 < recursionLimit) (hu : un + 64 < cLine) (hl : base.IsList l vs.toArray) (hi : IntsAre vs ns) (hn : ns.length ≤ 63)
    (ret : ∀ d x tx y ty n h' tk', 0 ≤ x → 0 ≤ y → y < 2147483647 → Fr h₀ L h' m → News h₀ L h' ((d, listOf [.int x tx, .int y ty].toArray n) :: news) → (∀ p ∈ news, p.1 < d) → Q (.ref d) { s with heap := h', toks := tk' }) :
    wpAny (model Challenge.rw_xm0805_01.row.prog w) (ktrTop dp un gd cn cs L a ccd cl outer) (call (.ref f) [.ref l]) Q E s := by
  refine wpAny_mono (C dp un gd cn cs a ccd cl outer A₀ base h₀ L m news s l vs ns E B F X N T hk hd hu hl hi hn) (fun v s' hv => ?_) fun _ _ e => e
  obtain ⟨d, x, tx, y, ty, n, h', tk, rfl, rfl, e1, e2, e3, F1, N1, lt⟩ := hv
  exact ret d x tx y ty n h' tk e1 e2 e3 F1 N1 lt
theorem one_use {t a0 a1 : Addr} {nt : Nat} (C : OneC w K p' loose mean mg mb f) (B : Below A₀ base outer h₀) (F : Fr h₀ L s.heap m) (X : K.In h₀) (N : News h₀ L s.heap news) (T : Top p' loose mean mg mb h₀) (hk : cs.kind = .function)
    (hU : UpdF d (listOf [.int x tx, .int y ty].toArray n) news g) (ht : (t, listOf [.ref a0, .ref a1].toArray nt) ∈ news) (hne : @Ne Nat t d) (hd : dp + 8 < recursionLimit) (hu : un + 64 < cLine) (hx : 0 ≤ x) (hy : 0 ≤ y) (hy2 : y < 2147483647)
    (ret : ∀ b x' tx' y' ty' h' tk', (b = a0 ∨ b = a1) → 0 ≤ x' → 0 ≤ y' → y' < 2147483647 → Fr h₀ L h' m → News h₀ L h' (g (listOf [.int x' tx', .int y' ty'].toArray n)) → Q (.ref b) { s with heap := h', toks := tk' }) :
    wpAny (model Challenge.rw_xm0805_01.row.prog w) (ktrTop dp un gd cn cs L a ccd cl outer) (call (.ref f) [.ref d, .ref t]) Q E s := by
  have hm := mem_updF hU
  refine wpAny_mono (C dp un gd cn cs a ccd cl outer A₀ base h₀ L m s d x tx y ty n t a0 a1 nt E B F X (fun q hq => by
    rcases List.mem_cons.mp hq with rfl | hq
    · exact N _ ht
    · rw [List.mem_singleton.mp hq]; exact N _ hm) T hk hd hu hx hy hy2 hne) (fun v s' hv => ?_) fun _ _ e => e
  obtain ⟨b, x', tx', y', ty', h', tk', rfl, e2, e3, e4, e5, rfl, hk', hd'⟩ := hv
  exact ret b x' tx' y' ty' h' tk' e2 e3 e4 e5 (fr_but1 F hk' (N _ hm).2.1 (N _ hm).2.2) (news_but1 N hU hk' hd')
theorem prod_use {one oth : Int} {t1 t2 : Tok} (C : ProdC w K p' loose mean mg mb f) (B : Below A₀ base outer h₀) (F : Fr h₀ L s.heap m) (X : K.In h₀) (N : News h₀ L s.heap news) (T : Top p' loose mean mg mb h₀) (hk : cs.kind = .function)
    (hd : dp + 8 < recursionLimit) (hu : un + 64 < cLine) (b1 : -(2 ^ 20) ≤ one) (b2 : one ≤ 2 ^ 20) (b3 : -(2 ^ 20) < oth) (b4 : oth < 2 ^ 20)
    (ret : ∀ t h' tk', Fr h₀ L h' m → News h₀ L h' news → Q (.int (one * oth) t) { s with heap := h', toks := tk' }) :
    wpAny (model Challenge.rw_xm0805_01.row.prog w) (ktrTop dp un gd cn cs L a ccd cl outer) (call (.ref f) [.int one t1, .int oth t2]) Q E s :=
  C dp un gd cn cs a ccd cl outer A₀ base h₀ L m news s one oth t1 t2 Q E B F X N T hk hd hu b1 b2 b3 b4 ret
end
theorem planes_one {news : Led} {p : Addr} {wd ht : Int} {R : Addr} (h : PlaneIn news p wd ht R) : PlanesIn news [.ref p] [(wd, ht, R)] := .cons h .nil
theorem planes_three {new news : Led} {p1 p2 p3 : Addr} {w1 h1 w2 h2 w3 h3 : Int} {R1 R2 R3 : Addr} (a : PlaneIn new p1 w1 h1 R1) (b : PlaneIn new p2 w2 h2 R2) (c : PlaneIn new p3 w3 h3 R3) (hs : ∀ p ∈ new, p ∈ news) : PlanesIn news [.ref p1, .ref p2, .ref p3] [(w1, h1, R1), (w2, h2, R2), (w3, h3, R3)] :=
  .cons (a.mono hs) (.cons (b.mono hs) (.cons (c.mono hs) .nil))
def tupD (wd ht : Int) (rows : List (List Int)) : Dat := .tuple [.int wd, .int ht, gridD rows]
theorem tups_one {new news : Led} {ys : List Value} {wd ht : Int} {R : Addr} {rows : List (List Int)} (h : TupsIn new ys [(wd, ht, R)]) (hs : ∀ p ∈ new, p ∈ news) (g : GridIn news R rows) : DatAll news ys [tupD wd ht rows] := by
  cases h with
  | cons hm r => cases r; exact .cons (.tuple (hs _ hm) (.cons (.int _ _) (.cons (.int _ _) (.cons g.dat .nil)))) .nil
theorem tups_three {new new₁ news : Led} {ys : List Value} {w1 h1 w2 h2 w3 h3 : Int} {R1 R2 R3 : Addr} {r1 r2 r3 : List (List Int)} (h : TupsIn new ys [(w1, h1, R1), (w2, h2, R2), (w3, h3, R3)]) (g1 : GridIn new₁ R1 r1) (g2 : GridIn new₁ R2 r2) (g3 : GridIn new₁ R3 r3) (hs : ∀ p ∈ new, p ∈ news) (hs₁ : ∀ p ∈ new₁, p ∈ news) :
    DatAll news ys [tupD w1 h1 r1, tupD w2 h2 r2, tupD w3 h3 r3] := by
  cases h with
  | cons m1 r => cases r with
    | cons m2 r => cases r with
      | cons m3 r =>
        cases r
        exact .cons (.tuple (hs _ m1) (.cons (.int _ _) (.cons (.int _ _) (.cons (g1.mono hs₁).dat .nil)))) (.cons (.tuple (hs _ m2) (.cons (.int _ _) (.cons (.int _ _) (.cons (g2.mono hs₁).dat .nil)))) (.cons (.tuple (hs _ m3) (.cons (.int _ _) (.cons (.int _ _) (.cons (g3.mono hs₁).dat .nil)))) .nil))
theorem ok_tup (k : Nat) (wd ht : Int) (rows : List (List Int)) : kqdOk (k + 3) (tupD wd ht rows) = true := by
  unfold tupD
  rw [kqdOk]
  simp only [List.all_cons, List.all_nil, Bool.and_true, Bool.and_eq_true]
  exact ⟨rfl, rfl, ok_grid k rows⟩
theorem ok_one {wd ht : Int} {rows : List (List Int)} : ∀ d ∈ [tupD wd ht rows], kqdOk 8 d = true := by
  intro d hd
  rw [List.mem_singleton.mp hd]; exact ok_tup 5 _ _ _
theorem ok_three {w1 h1 w2 h2 w3 h3 : Int} {r1 r2 r3 : List (List Int)} : ∀ d ∈ [tupD w1 h1 r1, tupD w2 h2 r2, tupD w3 h3 r3], kqdOk 8 d = true := by
  intro d hd
  simp only [List.mem_cons, List.not_mem_nil, or_false] at hd
  rcases hd with rfl | rfl | rfl <;> exact ok_tup 5 _ _ _
section
variable {prog : Program} {w : World} {A : Around} {E : Value → Shared → Prop} {s : Shared} {h₀ : Heap} {L a b : Addr} {m : Str → Option Value} {news : Led} {xs ys : List Value} {ka kb : Nat} {ds es : List Dat} {Q : Value → Shared → Prop}
/-- two lists of the same data are not unlike -/
theorem ne_same (N : News h₀ L s.heap news) (ma : (a, listOf xs.toArray ka) ∈ news) (mb : (b, listOf ys.toArray kb) ∈ news) (Da : DatAll news xs ds) (Db : DatAll news ys es) (ha : ∀ d ∈ ds, kqdOk 8 d = true) (e : ds = es) (hu : A.units + 64 < cLine) (h : Q (.bool false) s) :
    wpAny (model prog w) A (compareOp .NotEq (.ref a) (.ref b)) Q E s := by
  subst e
  refine kqd_ne N ma rfl rfl Da (fun _ h => h) mb rfl rfl Db (fun _ h => h) ha ha hu ?_
  simpa using h
end
theorem grid_dat_of {new news : Led} {R : Addr} {rows : List (List Int)} (h : GridIn new R rows) (hs : ∀ p ∈ new, p ∈ news) : DatIn news (.ref R) (gridD rows) := (h.mono hs).dat
theorem grid_same {news : Led} {D R : Addr} {k j : Nat} {c : Int} {t : Tok} {n1 n2 : Nat} (h2 : (R, listOf (List.replicate k (Value.ref D)).toArray n2) ∈ news) (h1 : (D, listOf (List.replicate j (Value.int c t)).toArray n1) ∈ news) : GridIn news R (List.replicate k (List.replicate j c)) :=
  ⟨_, _, h2, RowsIn.same h1 (ints_same c t j) k⟩
/-- what holds behind a statement that goes on: what stood still stands -/
def CutNext (h₀ : Heap) (L : Addr) (m : Str → Option Value) (news : Led) (s : Shared) (fl : Flow) (s' : Shared) : Prop := fl = .next ∧ ∃ h' tk, s' = { s with heap := h', toks := tk } ∧ Fr h₀ L h' m ∧ News h₀ L h' news
theorem cut_next {M : Model} {A : Around} {env : Env} {st : Stmt} {Q : Flow → Shared → Prop} {E : Value → Shared → Prop} {s : Shared} {h₀ : Heap} {L : Addr} {m : Str → Option Value} {news : Led} (F : Fr h₀ L s.heap m) (N : News h₀ L s.heap news)
    (h : wpAny M A (exec st env) (CutNext h₀ L m news s) E s) (k : ∀ h' tk, Fr h₀ L h' m → News h₀ L h' news → Q .next { s with heap := h', toks := tk }) : wpAny M A (exec st env) Q E s := by
  refine wpAny_mono h (fun fl s' hq => ?_) fun _ _ e => e
  obtain ⟨rfl, h', tk, rfl, F, N⟩ := hq
  exact k h' tk F N
theorem cut_end {h₀ h' : Heap} {L : Addr} {m : Str → Option Value} {news all : Led} {s : Shared} {tk : Nat} (F : Fr h₀ L h' m) (N : News h₀ L h' all) (hs : ∀ p ∈ news, p ∈ all) : CutNext h₀ L m news s .next { s with heap := h', toks := tk } := ⟨rfl, h', tk, rfl, F, fun p hp => N p (hs p hp)⟩
theorem pow2_le {k : Nat} (h : k ≤ 20) : (2 : Int) ^ k ≤ 1048576 := by
  have e : ((2 : Nat) ^ k) ≤ 2 ^ 20 := Nat.pow_le_pow_right (by decide) h
  have e2 : ((2 ^ k : Nat) : Int) ≤ ((2 ^ 20 : Nat) : Int) := Int.ofNat_le.mpr e
  rw [Int.natCast_pow] at e2
  exact e2
section
variable {prog : Program} {w : World} {A : Around} {E : Value → Shared → Prop} {s : Shared} {b : Int} {t u : Tok} {Q : Value → Shared → Prop}
theorem m_pow2 (h0 : 0 ≤ b) (h1 : b ≤ 20) (h : ∀ v : Int, v = 2 ^ b.toNat → 0 < v → v ≤ 1048576 → (b = 16 → v = 65536) → (b = 17 → v = 131072) → (b = 18 → v = 262144) → Q (.int v s.toks) { s with toks := s.toks + 1 }) : wpAny (model prog w) A (binaryOp .Pow (.int 2 t) (.int b u)) Q E s := by
  refine pow_int_small h0 (by omega) (by decide) (h _ rfl (Int.pow_pos (by decide)) ?_ ?_ ?_ ?_)
  · exact pow2_le (by omega)
  · rintro rfl; decide
  · rintro rfl; decide
  · rintro rfl; decide
end
end Mine
end

-- part V0
section
namespace Mine
theorem updF_self {d : Addr} {o : Obj} {news : Led} {g : Obj → Led} (hU : UpdF d o news g) : g o = news := by
  obtain ⟨pre, post, e1, e2, _, _⟩ := hU.split
  rw [e2, e1]
theorem updF_ne {d D : Addr} {o o' : Obj} {news : Led} {g : Obj → Led} (hU : UpdF d o news g) (h : ∀ p ∈ g o', p.1 ≠ D) : ∀ p ∈ news, p.1 ≠ D := by
  obtain ⟨pre, post, e1, e2, _, _⟩ := hU.split
  rw [e2] at h
  rw [e1]
  intro p hp
  rcases List.mem_append.mp hp with hp | hp
  · exact h p (List.mem_append_left _ hp)
  · rcases List.mem_cons.mp hp with rfl | hp
    · exact h (d, o') (by simp)
    · exact h p (List.mem_append_right _ (.tail _ hp))
theorem updF_ne' {d D : Addr} {o o' : Obj} {news : Led} {g : Obj → Led} (hU : UpdF d o news g) (h : ∀ p ∈ news, p.1 ≠ D) : ∀ p ∈ g o', p.1 ≠ D := by
  obtain ⟨pre, post, e1, e2, _, _⟩ := hU.split
  rw [e1] at h
  rw [e2]
  intro p hp
  rcases List.mem_append.mp hp with hp | hp
  · exact h p (List.mem_append_left _ hp)
  · rcases List.mem_cons.mp hp with rfl | hp
    · exact h (d, o) (by simp)
    · exact h p (List.mem_append_right _ (.tail _ hp))
theorem updF_app {d : Addr} {o : Obj} {new l : Led} {g : Obj → Led} (h : ∀ p ∈ new, p.1 ≠ d) (hU : UpdF d o l g) : UpdF d o (new ++ l) (fun o' => new ++ g o') := by
  induction new with
  | nil => exact hU
  | cons q r ih => exact .tail (h q (.head _)) (ih fun p hp => h p (.tail _ hp))
theorem apart_ne {new news : Led} {d : Addr} {o : Obj} (ap : Apart new news) (hm : (d, o) ∈ news) : ∀ p ∈ new, p.1 ≠ d := fun p hp => ap p hp _ hm
theorem off3_all {I C D : Addr} {l : Led} (h : LCg.Off3 I C D l) : (∀ p ∈ l, p.1 ≠ I) ∧ (∀ p ∈ l, p.1 ≠ C) ∧ ∀ p ∈ l, p.1 ≠ D := ⟨fun p hp => (h.mem p hp).1, fun p hp => (h.mem p hp).2.1, fun p hp => (h.mem p hp).2.2⟩
theorem off3_upd {I C D d : Addr} {o o1 o2 : Obj} {news new : Led} {g : Obj → Led} (hU : UpdF d o news g) (h : LCg.Off3 I C D (new ++ g o1)) : LCg.Off3 I C D (new ++ g o2) := by
  refine LCg.Off3.of fun p hp => ?_
  rcases List.mem_append.mp hp with hp | hp
  · exact h.mem p (List.mem_append_left _ hp)
  · have q : ∀ {b}, (∀ p ∈ g o1, p.1 ≠ b) → p.1 ≠ b := fun k => updF_ne' hU (updF_ne hU k) p hp
    exact ⟨q fun r hr => (h.mem r (List.mem_append_right _ hr)).1, q fun r hr => (h.mem r (List.mem_append_right _ hr)).2.1, q fun r hr => (h.mem r (List.mem_append_right _ hr)).2.2⟩
/-- where the source lies -/
def SrcMark (a : Addr) : Prop := True
theorem off1_src {d D : Addr} {o : Obj} {l : Led} (mk : SrcMark d) (h : LCg.Off1 D l) (hm : (d, o) ∈ l) : @Ne Nat d D := off1_mem h _ hm
theorem lt_src {d D : Addr} {o : Obj} {l : Led} (mk : SrcMark d) (h : ∀ p ∈ l, p.1 < D) (hm : (d, o) ∈ l) : @LT.lt Nat _ d D := h _ hm
abbrev srcOf (x : Int) (tx : Tok) (y : Int) (ty : Tok) (nn : Nat) : Obj := listOf [.int x tx, .int y ty].toArray nn
/-- some draws: ints, and the source turned -/
def TakesInv (nn : Nat) (g : Obj → Led) (i : Nat) (ys : List Value) (nw : Led) : Prop :=
  ∃ (x : Int) (tx : Tok) (y : Int) (ty : Tok) (r : List Int), nw = g (srcOf x tx y ty nn) ∧ 0 ≤ x ∧ 0 ≤ y ∧ y < 2147483647 ∧ IntsAre ys r ∧ r.length = i ∧ ∀ v ∈ r, -1048575 ≤ v ∧ v ≤ 1048575
theorem TakesInv.step {nn : Nat} {g : Obj → Led} {i : Nat} {ys : List Value} {r : List Int} {v : Int} {t : Tok} {x : Int} {tx : Tok} {y : Int} {ty : Tok} (hi : IntsAre ys r) (hl : r.length = i) (hb : ∀ v ∈ r, -1048575 ≤ v ∧ v ≤ 1048575) (h1 : 0 ≤ x) (h2 : 0 ≤ y) (h3 : y < 2147483647) (h4 : -1048575 ≤ v) (h5 : v ≤ 1048575) :
    TakesInv nn g (i + 1) (ys ++ [.int v t]) (g (srcOf x tx y ty nn)) := by
  refine ⟨x, tx, y, ty, r ++ [v], rfl, h1, h2, h3, IntsAre.append hi (.cons v t .nil), by simp [hl], ?_⟩
  intro u hu
  rcases List.mem_append.mp hu with hu | hu
  · exact hb u hu
  · rw [List.mem_singleton.mp hu]; exact ⟨h4, h5⟩
/-- rows of draws -/
def RowsInv (nn : Nat) (news : Led) (g : Obj → Led) (i : Nat) (ys : List Value) (nw : Led) : Prop :=
  ∃ (x : Int) (tx : Tok) (y : Int) (ty : Tok) (new : Led) (rows : List (List Int)), nw = new ++ g (srcOf x tx y ty nn) ∧ 0 ≤ x ∧ 0 ≤ y ∧ y < 2147483647 ∧ Apart new news ∧ RowsIn new ys rows ∧ rows.length = i ∧ ∀ r ∈ rows, r.length ≤ 100
section
variable {prog : Program} {w : World} {A : Around} {h₀ : Heap} {L : Addr} {m : Str → Option Value} {env : Env} {elt : Expr} {xn : Str} {scope : Scope} {cl : List (Str × Addr)} {s : Shared} {S : Led → Prop} {P : Nat → Value → Prop} {Fin : List Value → Led → Prop} {d : Addr} {nn : Nat} {news : Led} {g : Obj → Led} {n : Nat}
theorem rest_takes {x₀ : Int} {tx₀ : Tok} {y₀ : Int} {ty₀ : Tok} (mk : SrcMark d) (hU : UpdF d (srcOf x₀ tx₀ y₀ ty₀ nn) news g) (h1 : 0 ≤ x₀) (h2 : 0 ≤ y₀) (h3 : y₀ < 2147483647)
    (turn : ∀ i ys x tx y ty r I oI C oC D h tk (E' : Value → Shared → Prop), 0 ≤ x → 0 ≤ y → y < 2147483647 → IntsAre ys r → r.length = i → (∀ v ∈ r, -1048575 ≤ v ∧ v ≤ 1048575) → Fr h₀ L h m → News h₀ L h ((I, oI) :: (C, oC) :: (D, LCg.lst ys) :: g (srcOf x tx y ty nn)) → LCg.Off3 I C D (g (srcOf x tx y ty nn)) → ((@Ne Nat I d) ∧ (@Ne Nat C d) ∧ (@Ne Nat D d)) → UpdF d (srcOf x₀ tx₀ y₀ ty₀ nn) news g →
      wpAny (model prog w) A (eval elt (compEnvC scope cl C env)) (LCg.CompEnd h₀ L m { s with heap := h, toks := tk } I oI C oC D (LCg.lst ys) S (fun v nw' => TakesInv nn g (i + 1) (ys ++ [v]) nw')) E' { s with heap := h, toks := tk })
    (fin : ∀ ys x tx y ty r, 0 ≤ x → 0 ≤ y → y < 2147483647 → IntsAre ys r → r.length = n → (∀ v ∈ r, -1048575 ≤ v ∧ v ≤ 1048575) → Fin ys (g (srcOf x tx y ty nn))) : LCg.CompRest prog w A h₀ L m env elt xn scope cl s S P Fin n 0 [] news := by
  refine rest_inv (TakesInv nn g) ⟨x₀, tx₀, y₀, ty₀, [], (updF_self hU).symm, h1, h2, h3, .nil, rfl, fun _ h => nomatch h⟩ ?_ ?_
  · rintro i v ys nw I oI C oC D m₂ h tk E' hi hv ⟨x, tx, y, ty, r, rfl, k1, k2, k3, k4, k5, k6⟩ hC hx F N off ne
    have hm : (d, srcOf x tx y ty nn) ∈ g (srcOf x tx y ty nn) := by
      obtain ⟨pre, post, e1, e2, _, _⟩ := hU.split
      rw [e2]; simp
    have o := off.mem _ hm
    exact turn i ys x tx y ty r I oI C oC D h tk E' k1 k2 k3 k4 k5 k6 F N off ⟨Ne.symm o.1, Ne.symm o.2.1, Ne.symm o.2.2⟩ hU
  · rintro ys nw ⟨x, tx, y, ty, r, rfl, k1, k2, k3, k4, k5, k6⟩
    exact fin ys x tx y ty r k1 k2 k3 k4 k5 k6
theorem rest_takes3 {x₀ : Int} {tx₀ : Tok} {y₀ : Int} {ty₀ : Tok} (mk : SrcMark d) (hU : UpdF d (srcOf x₀ tx₀ y₀ ty₀ nn) news g) (h1 : 0 ≤ x₀) (h2 : 0 ≤ y₀) (h3 : y₀ < 2147483647)
    (turn : ∀ i ys x tx y ty r I oI C oC D h tk (E' : Value → Shared → Prop), 0 ≤ x → 0 ≤ y → y < 2147483647 → IntsAre ys r → r.length = i → (∀ v ∈ r, -1048575 ≤ v ∧ v ≤ 1048575) → Fr h₀ L h m → News h₀ L h ((I, oI) :: (C, oC) :: (D, LCg.lst ys) :: g (srcOf x tx y ty nn)) → LCg.Off3 I C D (g (srcOf x tx y ty nn)) → ((@Ne Nat I d) ∧ (@Ne Nat C d) ∧ (@Ne Nat D d)) → UpdF d (srcOf x₀ tx₀ y₀ ty₀ nn) news g →
      wpAny (model prog w) A (eval elt (compEnvC scope cl C env)) (LCg.CompEnd h₀ L m { s with heap := h, toks := tk } I oI C oC D (LCg.lst ys) S (fun v nw' => TakesInv nn g (i + 1) (ys ++ [v]) nw')) E' { s with heap := h, toks := tk })
    (fin : ∀ a ta b tb c tc x tx y ty, 0 ≤ x → 0 ≤ y → y < 2147483647 → -1048575 ≤ a → a ≤ 1048575 → -1048575 ≤ b → b ≤ 1048575 → -1048575 ≤ c → c ≤ 1048575 → Fin [.int a ta, .int b tb, .int c tc] (g (srcOf x tx y ty nn))) : LCg.CompRest prog w A h₀ L m env elt xn scope cl s S P Fin 3 0 [] news := by
  refine rest_takes mk hU h1 h2 h3 turn ?_
  intro ys x tx y ty r k1 k2 k3 k4 k5 k6
  match r, k5 with
  | [a, b, c], _ =>
    cases k4 with
    | cons _ ta k4 => cases k4 with
      | cons _ tb k4 => cases k4 with
        | cons _ tc k4 =>
          cases k4
          have ha := k6 a (by simp)
          have hb := k6 b (by simp)
          have hc := k6 c (by simp)
          exact fin a ta b tb c tc x tx y ty k1 k2 k3 ha.1 ha.2 hb.1 hb.2 hc.1 hc.2
theorem rest_rows {x₀ : Int} {tx₀ : Tok} {y₀ : Int} {ty₀ : Tok} (mk : SrcMark d) (hU : UpdF d (srcOf x₀ tx₀ y₀ ty₀ nn) news g) (h1 : 0 ≤ x₀) (h2 : 0 ≤ y₀) (h3 : y₀ < 2147483647)
    (turn : ∀ i ys x tx y ty new rows I oI C oC D h tk (E' : Value → Shared → Prop), 0 ≤ x → 0 ≤ y → y < 2147483647 → Apart new news → RowsIn new ys rows → rows.length = i → (∀ r ∈ rows, r.length ≤ 100) → (∀ p ∈ new, p.1 ≠ d) → Fr h₀ L h m → News h₀ L h ((I, oI) :: (C, oC) :: (D, LCg.lst ys) :: (new ++ g (srcOf x tx y ty nn))) → LCg.Off3 I C D (new ++ g (srcOf x tx y ty nn)) → ((@Ne Nat I d) ∧ (@Ne Nat C d) ∧ (@Ne Nat D d)) → UpdF d (srcOf x₀ tx₀ y₀ ty₀ nn) news g →
      wpAny (model prog w) A (eval elt (compEnvC scope cl C env)) (LCg.CompEnd h₀ L m { s with heap := h, toks := tk } I oI C oC D (LCg.lst ys) S (fun v nw' => RowsInv nn news g (i + 1) (ys ++ [v]) nw')) E' { s with heap := h, toks := tk })
    (fin : ∀ ys x tx y ty new rows, 0 ≤ x → 0 ≤ y → y < 2147483647 → Apart new news → RowsIn new ys rows → rows.length = n → (∀ r ∈ rows, r.length ≤ 100) → (∀ p ∈ new, p.1 ≠ d) → Fin ys (new ++ g (srcOf x tx y ty nn))) : LCg.CompRest prog w A h₀ L m env elt xn scope cl s S P Fin n 0 [] news := by
  have hd := mem_updF hU
  refine rest_inv (RowsInv nn news g) ⟨x₀, tx₀, y₀, ty₀, [], [], (updF_self hU).symm, h1, h2, h3, Apart.nil, .nil, rfl, fun _ h => nomatch h⟩ ?_ ?_
  · rintro i v ys nw I oI C oC D m₂ h tk E' hi hv ⟨x, tx, y, ty, new, rows, rfl, k1, k2, k3, k4, k5, k6, k7⟩ hC hx F N off ne
    have hm : (d, srcOf x tx y ty nn) ∈ g (srcOf x tx y ty nn) := by
      obtain ⟨pre, post, e1, e2, _, _⟩ := hU.split
      rw [e2]; simp
    have o := off.mem _ (List.mem_append_right _ hm)
    exact turn i ys x tx y ty new rows I oI C oC D h tk E' k1 k2 k3 k4 k5 k6 k7 (apart_ne k4 hd) F N off ⟨Ne.symm o.1, Ne.symm o.2.1, Ne.symm o.2.2⟩ hU
  · rintro ys nw ⟨x, tx, y, ty, new, rows, rfl, k1, k2, k3, k4, k5, k6, k7⟩
    exact fin ys x tx y ty new rows k1 k2 k3 k4 k5 k6 k7 (apart_ne k4 hd)
end
/-- a turn's end behind a draw -/
theorem end_take {h₀ h' : Heap} {L I C D d : Addr} {m : Str → Option Value} {s₁ : Shared} {oI oC oD o o1 : Obj} {tk : Nat} {news : Led} {g : Obj → Led} {nn i : Nat} {ys : List Value} {r : List Int} {v : Int} {t : Tok} {x : Int} {tx : Tok} {y : Int} {ty : Tok}
    (hU : UpdF d o news g) (F : Fr h₀ L h' m) (N : News h₀ L h' ((I, oI) :: (C, oC) :: (D, oD) :: g (srcOf x tx y ty nn))) (off : LCg.Off3 I C D (g o1)) (hi : IntsAre ys r) (hl : r.length = i) (hb : ∀ v ∈ r, -1048575 ≤ v ∧ v ≤ 1048575) (h1 : 0 ≤ x) (h2 : 0 ≤ y) (h3 : y < 2147483647) (h4 : -1048575 ≤ v) (h5 : v ≤ 1048575) :
    LCg.CompEnd h₀ L m s₁ I oI C oC D oD (fun _ => True) (fun v nw' => TakesInv nn g (i + 1) (ys ++ [v]) nw') (.int v t) { s₁ with heap := h', toks := tk } :=
  LCg.CompEnd.intro F N (g (srcOf x tx y ty nn)) (fun _ h => h) (off3_upd (new := []) hU off) True.intro (TakesInv.step hi hl hb h1 h2 h3 h4 h5)
/-- a turn's end behind a row -/
theorem end_row {h₀ h' : Heap} {L I C D D2 d : Addr} {m : Str → Option Value} {s₁ : Shared} {oI oC oD o o1 : Obj} {tk : Nat} {news new : Led} {g : Obj → Led} {nn i : Nat} {ys ys2 : List Value} {r : List Int} {rows : List (List Int)} {x : Int} {tx : Tok} {y : Int} {ty : Tok}
    (hU : UpdF d o news g) (F : Fr h₀ L h' m) (N : News h₀ L h' ((D2, LCg.lst ys2) :: (I, oI) :: (C, oC) :: (D, oD) :: (new ++ g (srcOf x tx y ty nn)))) (off1 : LCg.Off1 D2 ((I, oI) :: (C, oC) :: (D, oD) :: (new ++ g (srcOf x tx y ty nn)))) (off : LCg.Off3 I C D (new ++ g o1))
    (ap : Apart new news) (hr : RowsIn new ys rows) (hl : rows.length = i) (hb : ∀ r ∈ rows, r.length ≤ 100) (hi : IntsAre ys2 r) (hlen : r.length ≤ 100) (h1 : 0 ≤ x) (h2 : 0 ≤ y) (h3 : y < 2147483647) :
    LCg.CompEnd h₀ L m s₁ I oI C oC D oD (fun _ => True) (fun v nw' => RowsInv nn news g (i + 1) (ys ++ [v]) nw') (.ref D2) { s₁ with heap := h', toks := tk } := by
  have o1 := off1_mem off1
  refine LCg.CompEnd.intro F N ((D2, LCg.lst ys2) :: (new ++ g (srcOf x tx y ty nn))) ?_ (off3_cons ?_ ?_ ?_ (off3_upd hU off)) True.intro ⟨x, tx, y, ty, (D2, LCg.lst ys2) :: new, rows ++ [r], rfl, h1, h2, h3, Apart.cons' ?_ ap, (hr.mono sub_cons).append (.cons (.head _) hi .nil), by simp [hl], ?_⟩
  · intro p hp
    simp only [List.mem_cons] at hp ⊢
    rcases hp with hp | hp | hp | hp | hp
    · exact .inr (.inl hp)
    · exact .inr (.inr (.inl hp))
    · exact .inr (.inr (.inr (.inl hp)))
    · exact .inl hp
    · exact .inr (.inr (.inr (.inr hp)))
  · exact Ne.symm (o1 (I, oI) (by simp))
  · exact Ne.symm (o1 (C, oC) (by simp))
  · exact Ne.symm (o1 (D, oD) (by simp))
  · exact updF_ne hU fun p hp => o1 p (by simp only [List.mem_cons, List.mem_append]; exact .inr (.inr (.inr (.inr hp))))
  · intro q hq
    rcases List.mem_append.mp hq with hq | hq
    · exact hb q hq
    · rw [List.mem_singleton.mp hq]; exact hlen
section
variable {prog : Program} {w : World} {A : Around} {E : Value → Shared → Prop} {s : Shared} {env : Env} {h₀ : Heap} {x : Str} {body : List Stmt} {Q : Flow → Shared → Prop}
/-- a loop over a range that doubles one name -/
theorem range_dbl (y : Str) {r : Addr} {b₀ : Int} {t₀ u₀ v₀ : Tok} {m₀ : Str → Option Value} {news : Led} {tc : Tok}
    (hh : A.handled = none) (hr : IsRange s.heap r 0 b₀ 1 t₀ u₀ v₀) (hsmall : Builtin.Range.small 0 b₀ 1 = true) (F : Fr h₀ env.locals s.heap m₀) (N : News h₀ env.locals s.heap news) (hy : m₀ y = some (.int 1 tc))
    (turn : ∀ k t a ta h tk own, OwnOff own (news.map (·.1)) → Fr h₀ env.locals h (fun z => if z = x then some (.int k t) else if z = y then some (.int a ta) else m₀ z) → News h₀ env.locals h (news ++ own) →
      wpAny (model prog w) A (execs body env) (InvPostN h₀ env.locals (fun m' nx => nx = news ∧ KPfInt m' y (a + a) ∧ ∀ z, z ≠ x → z ≠ y → m' z = m₀ z) own (news.map (·.1)) { s with heap := h, toks := tk } Q) E { s with heap := h, toks := tk })
    (done : ∀ (u : Str → Option Value) t h tk, Fr h₀ env.locals h (fun z => if z = x then u z else if z = y then some (.int (2 ^ b₀.toNat) t) else m₀ z) → News h₀ env.locals h news → Q .next { s with heap := h, toks := tk }) :
    wpAny (model prog w) A (pyIter (.ref r)) (fun it s₂ => LoopAtV prog w A h₀ env x body Q E it s₂) E s := by
  have hn := rangeSize_nat 0 b₀
  rw [Int.sub_zero] at hn
  refine kpr_invN (fun i m nx => nx = news ∧ KPfInt m y (2 ^ i) ∧ ∀ z, z ≠ x → z ≠ y → m z = m₀ z) hh hr hsmall hn F N ⟨rfl, ⟨tc, by rw [Int.pow_zero]; exact hy⟩, fun _ _ _ => rfl⟩ ?_ ?_
  · rintro i k t m₁ nx h tk own hk hoff ⟨rfl, ⟨ta, ha⟩, hm⟩ F₁ N₁
    rw [map_one ha hm] at F₁
    have e : (2 : Int) ^ (i + 1) = 2 ^ i + 2 ^ i := by rw [Int.pow_succ]; omega
    rw [e]
    exact turn k t _ ta h tk own hoff F₁ N₁
  · rintro m₁ nx h tk ⟨rfl, ⟨t, ha⟩, hm⟩ F₁ N₁
    rw [rangeKs_length] at ha
    refine done m₁ t h tk ?_ N₁
    rw [done_one ha hm]
    exact F₁
theorem dbl_end {h₀ h' : Heap} {L : Addr} {x y : Str} {m₀ : Str → Option Value} {m' : Str → Option Value} {news own : Led} {a : Int} {t : Tok} {s₁ : Shared} {tk : Nat} (F : Fr h₀ L h' m') (N : News h₀ L h' (news ++ own)) (h1 : m' y = some (.int (a + a) t)) (h2 : ∀ z, z ≠ x → z ≠ y → m' z = m₀ z) :
    InvEndN h₀ L (fun m' nx => nx = news ∧ KPfInt m' y (a + a) ∧ ∀ z, z ≠ x → z ≠ y → m' z = m₀ z) own (news.map (·.1)) s₁ { s₁ with heap := h', toks := tk } :=
  InvEndN.intro F N ⟨rfl, ⟨t, h1⟩, h2⟩ rfl (fun _ h => List.mem_append_left _ h) fun _ h => List.mem_append_right _ h
end
end Mine
end

-- part Z0
section
open PySem.Spec PyProof.V
namespace Mine
/-- an element that leaves all as it stood and gives an int -/
def ZipEnd (h₀ : Heap) (L : Addr) (m : Str → Option Value) (s : Shared) (led : Led) (p : Int) (v : Value) (s' : Shared) : Prop :=
  ∃ (t : Tok) (h' : Heap) (tk : Nat), v = .int p t ∧ s' = { s with heap := h', toks := tk } ∧ Fr h₀ L h' m ∧ News h₀ L h' led
section
variable {prog : Program} {w : World} {A : Around} {E : Value → Shared → Prop} {s : Shared} {h₀ : Heap} {L : Addr} {m : Str → Option Value} {env : Env} {elt : PySem.Expr} {a b : Str} {scope : Scope} {cl : List (Str × Addr)}
def ZipTurn (prog : Program) (w : World) (A : Around) (h₀ : Heap) (L : Addr) (m : Str → Option Value) (env : Env) (elt : PySem.Expr) (a b : Str) (scope : Scope) (cl : List (Str × Addr)) (s : Shared) (news : Led) : Prop :=
  ∀ (u : Int) (t : Tok) (v : Int) (t' : Tok) C oC D acc m₂ h tk own (E' : Value → Shared → Prop), -1048575 ≤ u → u ≤ 1048575 → -1048575 ≤ v → v ≤ 1048575 → LCg.NsObj oC m₂ → m₂ a = some (.int u t) → m₂ b = some (.int v t') → Fr h₀ L h m → News h₀ L h ((C, oC) :: (D, LCg.lst acc) :: (own ++ news)) →
    wpAny (model prog w) A (eval elt (compEnvC scope cl C env)) (ZipEnd h₀ L m { s with heap := h, toks := tk } ((C, oC) :: (D, LCg.lst acc) :: (own ++ news)) (u * v)) E' { s with heap := h, toks := tk }
def ZipSrc (prog : Program) (w : World) (A : Around) (h₀ : Heap) (L : Addr) (m : Str → Option Value) (env : Env) (elt : PySem.Expr) (a b : Str) (scope : Scope) (cl : List (Str × Addr)) (Q : Value → Shared → Prop) (xv : Value) (s₁ : Shared) : Prop :=
  ∃ (z : Addr) (fp wr : List Addr) (St : Nat → Heap → Prop) (Mid : Nat → Addr → Heap → Prop) (us vs : List Int) (Pt : Nat → Array Value → Prop) (news : Led), xv = .ref z ∧ A.handled = none ∧ us.length = vs.length ∧ us.length ≤ 100 ∧ (∀ x ∈ us, -1048575 ≤ x ∧ x ≤ 1048575) ∧ (∀ x ∈ vs, -1048575 ≤ x ∧ x ≤ 1048575) ∧
    (∀ i vals, Pt i vals → ∃ u t v t', us[i]? = some u ∧ vs[i]? = some v ∧ vals = #[.int u t, .int v t']) ∧ WalksU prog w A z fp wr us.length Pt St Mid ∧ St 0 s₁.heap ∧ L ∉ fp ∧ (∀ b ∈ fp, b < s₁.heap.objs.size) ∧ (∀ b ∈ wr, h₀.get? b = none) ∧ (∀ p ∈ news, p.1 ∉ wr) ∧
    Fr h₀ L s₁.heap m ∧ News h₀ L s₁.heap news ∧ (∀ g : Heap, ZipTurn prog w A h₀ L m env elt a b scope cl { s₁ with heap := g } news) ∧
    ∀ g D acc h tk, Fr h₀ L h m → News h₀ L h ((D, LCg.lst acc) :: news) → LCg.Off1 D news → IntsAre acc (List.zipWith (· * ·) us vs) → Q (.ref D) { ({ s₁ with heap := g } : Shared) with heap := h, toks := tk }
theorem off1_of {D : Addr} : ∀ {l : Led}, (∀ p ∈ l, p.1 ≠ D) → LCg.Off1 D l
  | [], _ => trivial
  | _ :: _, h => ⟨h _ List.mem_cons_self, off1_of fun p hp => h p (List.mem_cons_of_mem _ hp)⟩
theorem take_zip (us vs : List Int) (i : Nat) {u v : Int} (hu : us[i]? = some u) (hv : vs[i]? = some v) : (List.zipWith (· * ·) us vs).take (i + 1) = (List.zipWith (· * ·) us vs).take i ++ [u * v] := by
  rw [List.take_add_one, List.getElem?_zipWith, hu, hv]
  rfl
theorem zip_block {iter : PySem.Expr} {pa pb tp : Pos} {kk : Nat} {pos : Pos} {s₂ : Shared} {z : Addr} {fp wr : List Addr} {St : Nat → Heap → Prop} {Mid : Nat → Addr → Heap → Prop} {us vs : List Int} {Pt : Nat → Array Value → Prop} {news : Led} {RR : Value → Addr → Result → Shared → Prop}
    (hh : A.handled = none) (hlen : us.length = vs.length) (hsz : us.length ≤ 100) (hbu : ∀ x ∈ us, -1048575 ≤ x ∧ x ≤ 1048575) (hbv : ∀ x ∈ vs, -1048575 ≤ x ∧ x ≤ 1048575)
    (hPt : ∀ i vals, Pt i vals → ∃ u t v t', us[i]? = some u ∧ vs[i]? = some v ∧ vals = #[.int u t, .int v t']) (W : WalksU prog w A z fp wr us.length Pt St Mid) (hst : St 0 s₂.heap) (hLf : L ∉ fp) (hfp : ∀ b ∈ fp, b < s₂.heap.objs.size) (hwr : ∀ b ∈ wr, h₀.get? b = none) (hnw : ∀ p ∈ news, p.1 ∉ wr)
    (hcell : ∀ y ∈ scope.names, y.2 ≠ .cell) (hkind : scope.kind = .function) (hxa : scope.names.lookup a = some .local) (hxb : scope.names.lookup b = some .local) (hab : ¬ a = b)
    (F : Fr h₀ L s₂.heap m) (N : News h₀ L s₂.heap news) (R : ZipTurn prog w A h₀ L m env elt a b scope cl s₂ news)
    (hRR : ∀ D C h tk m' acc, Fr h₀ L h m → News h₀ L h ((D, LCg.lst acc) :: news) → LCg.Off1 D news → h.Ns C m' → h₀.get? C = none → h₀.get? D = none → C ≠ L → D ≠ L → C ≠ D → (∀ p ∈ news, p.1 ≠ C) → IntsAre acc (List.zipWith (· * ·) us vs) → RR (.ref D) C (.ok .next) { s₂ with heap := h, toks := tk }) :
    wpAny (model prog w) A (newList []) (fun acc s₃ => wpAny (model prog w) A (newFunctionEnv scope env.globals cl [] env.qual none .none (some env)) (fun cenv s₄ =>
      codeAny (model prog w) A (.compStart (.ListComp elt [⟨.Tuple [.Name a pa, .Name b pb] kk tp, iter, [], 0⟩] scope pos) 0 (.ref z) acc { cenv with scope := relabel scope env }) (RR acc cenv.locals) s₄) E s₃) E s₂ := by
  refine wpAny_newObj_type (wpAny_newFunctionEnv hcell (by intro y hy; simp at hy) (fun h₁ hns₁ hsb₁ => ?_) hkind)
  dsimp only at hns₁ hsb₁ ⊢
  generalize hH2 : s₂.heap.push { cls := .type "list", dict := none, data := .seq ([] : List Value).toArray } = H2 at hns₁ hsb₁ ⊢
  have hC : H2.objs.size = s₂.heap.objs.size + 1 := by rw [← hH2, Heap.size_push]
  have hDC : s₂.heap.objs.size ≠ H2.objs.size := by rw [hC]; exact Nat.ne_of_lt (Nat.lt_succ_self _)
  have below : ∀ b, b < s₂.heap.objs.size → b ≠ H2.objs.size ∧ b ≠ s₂.heap.objs.size := fun b hb => ⟨by rw [hC]; exact Nat.ne_of_lt (Nat.lt_succ_of_lt hb), Nat.ne_of_lt hb⟩
  have hDf : s₂.heap.objs.size ∉ fp := fun hm => Nat.lt_irrefl _ (hfp _ hm)
  have hCf : H2.objs.size ∉ fp := fun hm => by have := hfp _ hm; rw [hC] at this; exact Nat.lt_irrefl _ (Nat.lt_of_succ_lt this)
  have old : ∀ b o, s₂.heap.get? b = some o → h₁.get? b = some o := fun b o e => hsb₁.extBut b o (below b (Heap.lt_size e)).1 (Heap.get?_push_of_some _ (hH2 ▸ Heap.get?_push_of_some _ e))
  have hacc : h₁.get? s₂.heap.objs.size = some (LCg.lst []) := hsb₁.extBut _ _ hDC (Heap.get?_push_of_some _ (hH2 ▸ Heap.get?_push_size _ rfl))
  have hst₁ : St 0 h₁ := W.frame _ _ _ hst fun b _ o e => old b o e
  have fresh : ∀ a, s₂.heap.objs.size ≤ a → s₂.heap.get? a = none := fun a ha => by
    cases e : s₂.heap.get? a with
    | none => rfl
    | some o' => exact absurd (Heap.lt_size e) (Nat.not_lt.mpr ha)
  have fresh₀ : ∀ a, s₂.heap.objs.size ≤ a → h₀.get? a = none := fun a ha => by
    cases e : h₀.get? a with
    | none => rfl
    | some o' => have := F.keep a o' e; rw [fresh a ha] at this; cases this
  have hD₀ : h₀.get? s₂.heap.objs.size = none := fresh₀ _ (Nat.le_refl _)
  have hC₀ : h₀.get? H2.objs.size = none := fresh₀ _ (by rw [hC]; exact Nat.le_succ _)
  have hLlt : L < s₂.heap.objs.size := F.ns.lt
  have hDL : s₂.heap.objs.size ≠ L := Ne.symm (below L hLlt).2
  have hCL : H2.objs.size ≠ L := Ne.symm (below L hLlt).1
  have hnD : ∀ p ∈ news, p.1 ≠ s₂.heap.objs.size := fun p hp => (below _ (Heap.lt_size (N p hp).1)).2
  have hnC : ∀ p ∈ news, p.1 ≠ H2.objs.size := fun p hp => (below _ (Heap.lt_size (N p hp).1)).1
  have hLw : L ∉ wr := fun h => hLf (W.sub _ h)
  have hDw : s₂.heap.objs.size ∉ wr := fun h => hDf (W.sub _ h)
  have hCw : H2.objs.size ∉ wr := fun h => hCf (W.sub _ h)
  have KT := KTurns.ofWalksU (elts := [.Name a pa, .Name b pb]) (k := kk) (pos := tp) W
  have loop : ∀ s₃ : Shared, s₃ = { s₂ with heap := h₁, toks := s₂.toks + ([] : List (Str × Value)).length } →
      codeAny (model prog w) A (.compLoop (.ListComp elt [⟨.Tuple [.Name a pa, .Name b pb] kk tp, iter, [], 0⟩] scope pos) 0 (.ref z) (.ref s₂.heap.objs.size) (compEnvC scope cl H2.objs.size env))
        (RR (.ref s₂.heap.objs.size) H2.objs.size) s₃ := by
    rintro s₃ rfl
    refine kcp_loop
      (fun k s' => ∃ h' tk i acc m', s' = { s₂ with heap := h', toks := tk } ∧ i ≤ us.length ∧ k = us.length + 1 - i ∧ acc.length = i ∧ St i h' ∧ Fr h₀ L h' m ∧ h'.Ns H2.objs.size m' ∧ News h₀ L h' ((s₂.heap.objs.size, LCg.lst acc) :: news) ∧ IntsAre acc ((List.zipWith (· * ·) us vs).take i)) ?_ (us.length + 1)
      ⟨h₁, _, 0, [], _, rfl, Nat.zero_le _, rfl, rfl, hst₁, F.keeps old, hns₁, fun p hp => ?_, by rw [List.take_zero]; exact .nil⟩
    · rintro k s' ⟨h', tk, i, acc, m', rfl, hi, rfl, hyl, hst', F', hn', N', hints⟩
      have next : ∀ h₁ : Heap, (∀ b o, b ∉ wr → h'.get? b = some o → h₁.get? b = some o) → Fr h₀ L h₁ m ∧ News h₀ L h₁ ((s₂.heap.objs.size, LCg.lst acc) :: news) := fun h₁ hk₁ =>
        ⟨⟨F'.ns.at' fun o e => hk₁ _ o hLw e, fun b o e => hk₁ b o (fun hb => by rw [hwr b hb] at e; cases e) (F'.keep b o e), F'.above⟩, fun p hp => by
          refine ⟨hk₁ _ _ ?_ (N' p hp).1, (N' p hp).2⟩
          rcases List.mem_cons.mp hp with rfl | hp
          · exact hDw
          · exact hnw p hp⟩
      by_cases hlt : i < us.length
      · refine KT.item i _ _ _ hlt hst' fun v h₂ tk₂ hMd hk₂ => ?_
        refine KT.go i v _ _ _ hMd fun h₃ hP hst₃ hk₃ => ?_
        obtain ⟨T, vals, rfl, hp, hT⟩ := hP
        obtain ⟨u, t, v, t', hu, hv, rfl⟩ := hPt i vals hp
        have up₃ : ∀ c o, c ∉ wr → h'.get? c = some o → h₃.get? c = some o := fun c o hc e => hk₃ c o hc (hk₂ c o hc e)
        refine kcp_assign (env := compEnvC scope cl H2.objs.size env) hh hT (lookup_relabel_local hxa) (lookup_relabel_local hxb) (by simp [compEnvC, relabel, hkind]) (hn'.at' fun o e => up₃ _ o hCw e) fun h₄ tk₄ hn₄ hs₄ => ?_
        obtain ⟨F₃, N₃⟩ := next h₃ up₃
        have F₄ : Fr h₀ L h₄ m := ⟨F₃.ns.at' fun o e => hs₄ _ o (Ne.symm hCL) e, fun c o e => hs₄ c o (fun q => by have q' : c = H2.objs.size := q; rw [q', hC₀] at e; cases e) (F₃.keep c o e), F₃.above⟩
        have hst₄ : St (i + 1) h₄ := W.frame _ _ _ hst₃ fun c hc o e => hs₄ c o (fun q => hCf (by have q' : c = H2.objs.size := q; rw [← q']; exact hc)) e
        obtain ⟨oC, heC, hoC⟩ := LCg.ns_obj hn₄
        have Nown : News h₀ L h₄ (PyProof.Rows.ownOf h₀ fp h₄) := news_ownOf hLf
        have N₄ : News h₀ L h₄ ((H2.objs.size, oC) :: (s₂.heap.objs.size, LCg.lst acc) :: (PyProof.Rows.ownOf h₀ fp h₄ ++ news)) := fun q hq => by
          rcases List.mem_cons.mp hq with rfl | hq
          · exact ⟨heC, hCL, hC₀⟩
          · rcases List.mem_cons.mp hq with rfl | hq
            · have y := N₃ _ (.head _)
              exact ⟨hs₄ _ _ hDC y.1, y.2⟩
            · rcases List.mem_append.mp hq with hq | hq
              · exact Nown q hq
              · have y := N₃ _ (.tail _ hq)
                exact ⟨hs₄ _ _ (hnC q hq) y.1, y.2⟩
        have bu := hbu u (List.mem_of_getElem? hu)
        have bv := hbv v (List.mem_of_getElem? hv)
        refine wpAny_mono (R u t v t' H2.objs.size oC s₂.heap.objs.size acc _ h₄ _ (PyProof.Rows.ownOf h₀ fp h₄) _ bu.1 bu.2 bv.1 bv.2 hoC (by simp [hab]) (by simp) F₄ N₄) (fun y s₅ h₅ => ?_) fun _ _ e => e
        obtain ⟨t₅, h₅, tk₅, rfl, rfl, F₅, N₅⟩ := h₅
        have zC := (N₅ (H2.objs.size, oC) List.mem_cons_self).1
        have zD := (N₅ (s₂.heap.objs.size, LCg.lst acc) (List.mem_cons_of_mem _ List.mem_cons_self)).1
        have hst₅ : St (i + 1) h₅ := W.frame _ _ _ hst₄ fun c hc o e => by
          cases hn : h₀.get? c with
          | some o₀ =>
            have : o₀ = o := by have q := F₄.keep c o₀ hn; rw [e] at q; exact (Option.some.inj q).symm
            exact this ▸ F₅.keep c o₀ hn
          | none => exact (N₅ _ (List.mem_cons_of_mem _ (List.mem_cons_of_mem _ (List.mem_append_left _ (mem_ownOf hc hn e))))).1
        refine append_at (hsz := by show acc.toArray.size ≤ sizeLine; rw [List.size_toArray, hyl, PySem.sizeLine_eq]; omega) zD fun h₆ hs₆ hD₆ => ?_
        refine ⟨us.length + 1 - (i + 1), by omega, h₆, tk₅, i + 1, acc ++ [.int (u * v) t₅], _, rfl, hlt, rfl, by rw [List.length_append, List.length_singleton, hyl], W.frame _ _ _ hst₅ fun c hc o e => hs₆.extBut c o (fun q => hDf (by rw [← q]; exact hc)) e, F₅.change hs₆ hDL hD₀,
          (hoC.ns zC).sameBut hs₆ (Ne.symm hDC), fun q hq => ?_, ?_⟩
        · rcases List.mem_cons.mp hq with rfl | hq
          · exact ⟨hD₆.trans (congrArg some (LCg.lst_snoc acc _)), hDL, hD₀⟩
          · have y := N₅ q (List.mem_cons_of_mem _ (List.mem_cons_of_mem _ (List.mem_append_right _ hq)))
            exact ⟨hs₆.extBut _ _ (hnD q hq) y.1, y.2⟩
        · rw [take_zip us vs i hu hv]
          exact IntsAre.append hints (.cons _ t₅ .nil)
      · have hin : i = us.length := Nat.le_antisymm hi (Nat.not_lt.mp hlt)
        subst hin
        refine KT.done _ _ _ hst' fun h₂ tk₂ hk₂ => ?_
        obtain ⟨F₂, N₂⟩ := next h₂ hk₂
        refine hRR _ _ h₂ tk₂ _ acc F₂ N₂ (off1_of hnD) (hn'.at' fun o e => hk₂ _ o hCw e) hC₀ hD₀ hCL hDL (Ne.symm hDC) hnC ?_
        have e : (List.zipWith (· * ·) us vs).take us.length = List.zipWith (· * ·) us vs := List.take_of_length_le (by rw [List.length_zipWith, ← hlen, Nat.min_self]; exact Nat.le_refl _)
        rw [e] at hints
        exact hints
    · rcases List.mem_cons.mp hp with rfl | hp
      · exact ⟨hacc, hDL, hD₀⟩
      · exact ⟨old _ _ (N p hp).1, (N p hp).2⟩
  exact codeAny_compStart_list (loop _ rfl) (W.self 0 _ _ _ hst₁ (loop _ rfl))
theorem zip_ListComp {iter : PySem.Expr} {pa pb tp : Pos} {kk : Nat} {pos : Pos} {Q : Value → Shared → Prop} (F₀ : Fr h₀ L s.heap m)
    (hclos : closureFor scope env = pure cl) (hcell : ∀ y ∈ scope.names, y.2 ≠ .cell) (hkind : scope.kind = .function)
    (hnames : ∀ y ∈ scope.names, y.2 = .local → scope.names.lookup y.1 = some .local) (hxa : scope.names.lookup a = some .local) (hxb : scope.names.lookup b = some .local) (hab : ¬ a = b)
    (h : wpAny (model prog w) A (eval iter env) (ZipSrc prog w A h₀ L m env elt a b scope cl Q) E s)
    (hs : ∀ x, foldedSetIterable iter env x = pure x := by intro _; rfl) :
    wpAny (model prog w) A (eval (.ListComp elt [⟨.Tuple [.Name a pa, .Name b pb] kk tp, iter, [], 0⟩] scope pos) env) Q E s := by
  rw [eval_ListComp]
  refine wpAny_comprehension_free (use := none) rfl hs hclos hkind hnames (wpAny_mono h (fun xv s₁ h₁ => ?_) fun _ _ e => e)
  obtain ⟨z, fp, wr, St, Mid, us, vs, Pt, news, rfl, hh, hlen, hsz, hbu, hbv, hPt, W, hst, hLf, hfp, hwr, hnw, F, N, R, fin⟩ := h₁
  refine W.self 0 _ _ _ hst ?_
  refine zip_block hh hlen hsz hbu hbv hPt W hst hLf hfp hwr hnw hcell hkind hxa hxb hab F N (R s₁.heap) ?_
  intro D C h tk m' acc F' N' o1 hn hC₀ hD₀ hCL hDL hCD offC hi
  refine ⟨m', hn, fun h'' hs'' => fin s₁.heap D acc h'' tk (F'.change hs'' hCL hC₀) (fun p hp => ?_) o1 hi⟩
  refine ⟨hs''.extBut _ _ ?_ (N' p hp).1, (N' p hp).2⟩
  rcases List.mem_cons.mp hp with rfl | hp
  · exact Ne.symm hCD
  · exact offC p hp
theorem zip_call {Q : Value → Shared → Prop} {l1 l2 : Addr} {a1 b1 c1 a2 b2 c2 : Int} {t1 t2 t3 u1 u2 u3 : Tok} {n1 n2 : Nat} {news : Led} (hh : A.handled = none) (F : Fr h₀ L s.heap m) (N : News h₀ L s.heap news)
    (m1 : (l1, listOf [.int a1 t1, .int b1 t2, .int c1 t3].toArray n1) ∈ news) (m2 : (l2, listOf [.int a2 u1, .int b2 u2, .int c2 u3].toArray n2) ∈ news)
    (k1 : -1048575 ≤ a1 ∧ a1 ≤ 1048575) (k2 : -1048575 ≤ b1 ∧ b1 ≤ 1048575) (k3 : -1048575 ≤ c1 ∧ c1 ≤ 1048575) (k4 : -1048575 ≤ a2 ∧ a2 ≤ 1048575) (k5 : -1048575 ≤ b2 ∧ b2 ≤ 1048575) (k6 : -1048575 ≤ c2 ∧ c2 ≤ 1048575)
    (turn : ∀ g : Heap, ZipTurn prog w A h₀ L m env elt a b scope cl { s with heap := g } news)
    (fin : ∀ D t1 t2 t3 h tk, Fr h₀ L h m → News h₀ L h ((D, LCg.lst [.int (a1 * a2) t1, .int (b1 * b2) t2, .int (c1 * c2) t3]) :: news) → LCg.Off1 D news → Q (.ref D) { s with heap := h, toks := tk }) :
    wpAny (model prog w) A (call (.type "zip") [.ref l1, .ref l2]) (ZipSrc prog w A h₀ L m env elt a b scope cl Q) E s := by
  have hl1 := News.isList N m1
  have hl2 := News.isList N m2
  have hlt1 : l1 < s.heap.objs.size := Heap.lt_size (N _ m1).1
  have hlt2 : l2 < s.heap.objs.size := Heap.lt_size (N _ m2).1
  have hLs : L < s.heap.objs.size := F.ns.lt
  have D : ZipApart (s.heap.objs.size + 4) (s.heap.objs.size + 2) (s.heap.objs.size + 3) s.heap.objs.size (s.heap.objs.size + 1) l1 l2 := ktu_apart _ _ _ hlt1 hlt2
  refine call_zip_2 hl1 hl2 fun h' hz hTI hTO hi1 hi2 hsz hk => ?_
  have fresh₀ : ∀ x, s.heap.objs.size ≤ x → h₀.get? x = none := fun x hx => by
    cases e : h₀.get? x with
    | none => rfl
    | some o => exact absurd (Heap.lt_size (F.keep x o e)) (Nat.not_lt.mpr hx)
  refine ⟨s.heap.objs.size + 4, _, _, _, _, [a1, b1, c1], [a2, b2, c2], _, news, rfl, hh, rfl, Nat.le_of_ble_eq_true rfl, ?_, ?_, ?_, (WalksT.zip2 hh _ _ _ _ _ _ _ D [.int a1 t1, .int b1 t2, .int c1 t3].toArray [.int a2 u1, .int b2 u2, .int c2 u3].toArray).toU, ?_, ?_, ?_, ?_, ?_, F.keeps hk, N.grown hk, fun g => ?_, ?_⟩
  · intro x hx
    simp only [List.mem_cons, List.not_mem_nil, or_false] at hx
    rcases hx with rfl | rfl | rfl
    · exact k1
    · exact k2
    · exact k3
  · intro x hx
    simp only [List.mem_cons, List.not_mem_nil, or_false] at hx
    rcases hx with rfl | rfl | rfl
    · exact k4
    · exact k5
    · exact k6
  · rintro i vals ⟨x, y, hx, hy, rfl⟩
    match i, hx, hy with
    | 0, hx, hy =>
      have ex : Value.int a1 t1 = x := by simpa using hx
      have ey : Value.int a2 u1 = y := by simpa using hy
      subst ex ey
      exact ⟨_, _, _, _, rfl, rfl, rfl⟩
    | 1, hx, hy =>
      have ex : Value.int b1 t2 = x := by simpa using hx
      have ey : Value.int b2 u2 = y := by simpa using hy
      subst ex ey
      exact ⟨_, _, _, _, rfl, rfl, rfl⟩
    | 2, hx, hy =>
      have ex : Value.int c1 t3 = x := by simpa using hx
      have ey : Value.int c2 u3 = y := by simpa using hy
      subst ex ey
      exact ⟨_, _, _, _, rfl, rfl, rfl⟩
    | k + 3, hx, _ => simp at hx
  · exact ⟨hz, hTI, ⟨_, _, hTO⟩, hi1, hi2, hl1.at fun o e => hk _ o e, hl2.at fun o e => hk _ o e⟩
  · intro hL
    simp only [List.mem_cons, List.not_mem_nil, or_false] at hL
    rcases hL with e | e | e | e | e | e | e
    · exact ktu_ne 4 hLs e
    · exact ktu_ne 2 hLs e
    · exact ktu_ne 3 hLs e
    · exact Nat.ne_of_lt hLs e
    · exact ktu_ne 1 hLs e
    · exact (N _ m1).2.1 e.symm
    · exact (N _ m2).2.1 e.symm
  · intro x hx
    simp only [List.mem_cons, List.not_mem_nil, or_false] at hx
    rw [hsz]
    have g : ∀ k : Nat, k < 5 → (s.heap.objs.size + k : Nat) < s.heap.objs.size + 5 := fun k hk => Nat.add_lt_add_left hk _
    rcases hx with rfl | rfl | rfl | rfl | rfl | rfl | rfl
    · exact g 4 (by decide)
    · exact g 2 (by decide)
    · exact g 3 (by decide)
    · exact g 0 (by decide)
    · exact g 1 (by decide)
    · exact Nat.lt_of_lt_of_le hlt1 (Nat.le_add_right _ _)
    · exact Nat.lt_of_lt_of_le hlt2 (Nat.le_add_right _ _)
  · intro x hx
    simp only [List.mem_cons, List.not_mem_nil, or_false] at hx
    rcases hx with rfl | rfl | rfl | rfl
    · exact fresh₀ _ (Nat.le_add_right _ _)
    · exact fresh₀ _ (Nat.le_add_right _ _)
    · exact fresh₀ _ (Nat.le_refl _)
    · exact fresh₀ _ (Nat.le_add_right _ _)
  · intro p hp hx
    have hlp := Heap.lt_size (N p hp).1
    simp only [List.mem_cons, List.not_mem_nil, or_false] at hx
    rcases hx with e | e | e | e
    · exact ktu_ne 4 hlp e
    · exact ktu_ne 3 hlp e
    · exact Nat.ne_of_lt hlp e
    · exact ktu_ne 1 hlp e
  · exact turn g
  · intro g D acc h tk F' N' o1 hi
    cases hi with
    | cons _ q1 hi => cases hi with
      | cons _ q2 hi => cases hi with
        | cons _ q3 hi =>
          cases hi
          exact fin D q1 q2 q3 h tk F' N' o1
end
theorem law_post (args : List WData) : PySem.Challenge.rw_xm0805_01.row.claim.post args (.bool true) args = true := by
  refine postW_of (r := PySem.Challenge.rw_xm0805_01.row.toRowW) (X := (true == true)) rfl ?_ rfl
  exact w_eq_bool (w_res rfl) w_lit
theorem law_none (args : List WData) : ∀ cls, PySem.Challenge.rw_xm0805_01.row.claim.raises args cls = false := by
  exact raisesW_false (r := PySem.Challenge.rw_xm0805_01.row.toRowW) (allW_false_nil)
theorem law_good {cl : Str → Option Addr} {mean : ExcName → Option Value} {args : List WData} {s₁ s' : Shared} {L : Addr} {m : Str → Option Value} (F : Fr s₁.heap L s'.heap m) (hg : s'.gens = #[]) (hos : s'.os = s₁.os := by rfl) :
    GoodW PySem.Challenge.rw_xm0805_01.row.claim cl mean args s₁ (.ok (.ret (.bool true))) s' := goodW_bool F hg (law_none args) (law_post args) hos
end Mine
end

-- part M2
section
namespace Mine
theorem one_pick {news : Led} {b a0 a1 p : Addr} {r0 r1 : List Value} {n0 n1 : Nat} (h : b = a0 ∨ b = a1) (h0 : (a0, listOf (.ref p :: r0).toArray n0) ∈ news) (h1 : (a1, listOf (.ref p :: r1).toArray n1) ∈ news) : ∃ rest nP, (b, listOf (.ref p :: rest).toArray nP) ∈ news := by
  rcases h with rfl | rfl
  · exact ⟨_, _, h0⟩
  · exact ⟨_, _, h1⟩
theorem tup_const {news : Led} {t l r : Addr} {a b c : Int} {t1 t2 t3 : Tok} {n1 n2 n3 : Nat} (m1 : (t, tupOf [.int a t1, .int b t2, .ref l].toArray n1) ∈ news) (m2 : (l, listOf [.ref r].toArray n2) ∈ news) (m3 : (r, listOf [.int c t3].toArray n3) ∈ news) : DatIn news (.ref t) (tupD a b [[c]]) :=
  .tuple m1 (.cons (.int _ _) (.cons (.int _ _) (.cons (.list m2 (.cons (.list m3 (.cons (.int _ _) .nil)) .nil)) .nil)))
theorem tup_grid {news : Led} {t R : Addr} {a b : Int} {t1 t2 : Tok} {n1 : Nat} {rows : List (List Int)} (m1 : (t, tupOf [.int a t1, .int b t2, .ref R].toArray n1) ∈ news) (g : GridIn news R rows) : DatIn news (.ref t) (tupD a b rows) :=
  .tuple m1 (.cons (.int _ _) (.cons (.int _ _) (.cons g.dat .nil)))
theorem rows_size {new : Led} {vs : List Value} {rows : List (List Int)} (h : RowsIn new vs rows) (hl : rows.length ≤ 100) : vs.toArray.size ≤ sizeLine := by rw [List.size_toArray, h.length, PySem.sizeLine_eq]; omega
theorem zip_end {h₀ : Heap} {L : Addr} {m : Str → Option Value} {s : Shared} {led : Led} {p : Int} {t : Tok} {h' : Heap} {tk : Nat} (F : Fr h₀ L h' m) (N : News h₀ L h' led) : ZipEnd h₀ L m s led p (.int p t) { s with heap := h', toks := tk } := ⟨t, h', tk, rfl, rfl, F, N⟩
theorem m_eq {prog : Program} {w : World} {A : Around} {E : Value → Shared → Prop} {s : Shared} {a b : Int} {t u : Tok} {Q : Value → Shared → Prop} (e : a = b) (h : Q (.bool true) s) : wpAny (model prog w) A (compareOp .Eq (.int a t) (.int b u)) Q E s := by
  refine eq_int ?_
  rw [e, beq_self_eq_true]
  exact h
theorem sum3 (x y z : Int) : x + y + z = [x, y, z].sum := by
  simp only [List.sum_cons, List.sum_nil]
  omega
theorem sum3' (a b c d e f : Int) : [a, b, c].getD (Int.toNat 0) 0 * [d, e, f].getD (Int.toNat 0) 0 + [a, b, c].getD (Int.toNat 1) 0 * [d, e, f].getD (Int.toNat 1) 0 + [a, b, c].getD (Int.toNat 2) 0 * [d, e, f].getD (Int.toNat 2) 0 = [a * d, b * e, c * f].sum := by
  show a * d + b * e + c * f = _
  exact sum3 _ _ _
theorem grid_mk {news new : Led} {R : Addr} {vs : List Value} {n : Nat} {rows : List (List Int)} (hm : (R, listOf vs.toArray n) ∈ news) (hr : RowsIn new vs rows) (hs : ∀ p ∈ new, p ∈ news) : GridIn news R rows := ⟨vs, n, hm, hr.mono hs⟩
end Mine
section
open Mine
local macro_rules | `(tactic| k_lt $h:ident) => `(tactic| ((have hAll9 := $h); (try (have hSrc9 := lt_src (by with_reducible assumption) hAll9 (by tb_start))); (replace $h := allLt_of $h); (try simp only [AllLt, and_true] at $h:ident)))
local macro_rules | `(tactic| k_room) => `(tactic| ((try simp only [depth_under_make, depth_under_kw, depth_in1, depth_deeper, depth_caller]); decide))
local macro_rules | `(tactic| tb_start) => `(tactic| first | with_reducible exact List.mem_cons_self | (refine List.mem_cons_of_mem _ ?_; tb_start) | (refine List.mem_append.mpr (Or.inr ?_); tb_start) | (refine List.mem_append.mpr (Or.inl ?_); tb_start) | with_reducible assumption | (intro p hp; tb_start))
local macro_rules | `(tactic| k_mem) => `(tactic| tb_start)
local macro_rules | `(tactic| k_all) => `(tactic| exact all_ne_of (by with_reducible assumption) (by tb_start))
-- the calls by their contracts
local macro_rules | `(tactic| walk_at "call ref") => `(tactic| (k_here; k_dflt (refine' grey_use (f := 80) ?uC ?uB ?uF ?uX ?uN ?uT ?uK ?ud ?uu ?uP ?up ?uR ?ub1 ?ub2 ?ub3 ?ub4 ?ub5 ?ub6 ?ub7 ?ub8 ?_; (case uB => k_asm); (case uF => k_asm); (case uX => k_asm); (case uN => k_asm); (case uT => k_asm); (case uK => first | exact rfl | assumption); (case ud => k_room); (case uu => ktr_units); (case uP => first | exact ⟨_, _, by tb_start⟩ | exact one_pick (by with_reducible assumption) (by tb_start) (by tb_start)); (case up => exact ⟨_, _, _, _, _, _, _, _, _, _, by tb_start, by tb_start⟩); (case uR => first | exact grid_mk (by tb_start) (by with_reducible assumption) (by tb_start) | exact ⟨_, _, by tb_start, .cons (by tb_start) (.cons _ _ .nil) .nil⟩); (case ub1 => omega); (case ub2 => omega); (case ub3 => omega); (case ub4 => omega); (case ub5 => first | decide | omega | assumption); (case ub6 => first | assumption | decide); (case ub7 => omega); (case ub8 => omega); (case uC => exact grey_holds _ _ _ _ _); intro new' P' p1' p2' p3' R1' R2' R3' nn' h' tk' F' N' ap' q1' q2' q3' q4' q5' q6' q7'; (try dsimp only); (try k_fold))))
local macro_rules | `(tactic| walk_at "call ref") => `(tactic| (k_here; k_dflt (refine' rows_use (f := 113) ?uC ?uB ?uF ?uX ?uN ?uT ?uK ?ud ?uu ?uP ?uq ?ub1 ?_; (case uB => k_asm); (case uF => k_asm); (case uX => k_asm); (case uN => k_asm); (case uT => k_asm); (case uK => first | exact rfl | assumption); (case ud => k_room); (case uu => ktr_units); (case uP => tb_start); (case uq => first | (refine' planes_three ?qa ?qb ?qc ?qd; (case qa => with_reducible assumption); (case qb => with_reducible assumption); (case qc => with_reducible assumption); (case qd => tb_start)) | (refine' planes_one ?qe; (case qe => exact ⟨_, _, _, _, _, _, _, _, _, _, by tb_start, by tb_start⟩))); (case ub1 => exact Nat.le_of_ble_eq_true rfl); (case uC => exact rows_holds _ _ _ _ _); intro new' D' ys' n' h' tk' F' N' ap' q1' q2'; (try dsimp only); (try k_fold))))
local macro_rules | `(tactic| walk_at "call ref") => `(tactic| (k_here; k_dflt (refine' pool_use (f := 87) ?uC ?uB ?uF ?uX ?uN ?uT ?uK ?ud ?uu ?ul ?ui ?un ?_; (case uB => k_asm); (case uF => k_asm); (case uX => k_asm); (case uN => k_asm); (case uT => k_asm); (case uK => first | exact rfl | assumption); (case ud => k_room); (case uu => ktr_units); (case ul => k_asm); (case ui => k_asm); (case un => omega); (case uC => exact pool_holds _ _ _ _ _); intro d' x' tx' y' ty' n' h' tk' hx' hy' hz' F' N' l1; (have src9 : SrcMark d' := True.intro); (try k_lt l1); (try dsimp only); (try k_fold))))
local macro_rules | `(tactic| walk_at "call ref") => `(tactic| (k_here; k_dflt (refine' take_use (f := 94) ?uC ?uB ?uF ?uX ?uN ?uT ?uK ?uU ?ud ?uu ?ux ?uy ?uy2 ?ut ?ut2 ?_; (case uB => k_asm); (case uF => k_asm); (case uX => k_asm); (case uN => k_asm); (case uT => k_asm); (case uK => first | exact rfl | assumption); (case uU => k_updF); (case ud => k_room); (case uu => ktr_units); (case ux => omega); (case uy => omega); (case uy2 => omega); (case ut => omega); (case ut2 => omega); (case uC => exact take_holds _ _ _ _ _); intro k' t' x' tx' y' ty' h' tk' hk0' hk1' hx' hy' hz' F' N'; (try dsimp only at N'); (try dsimp only); (try k_fold))))
local macro_rules | `(tactic| walk_at "call ref") => `(tactic| (k_here; k_dflt (refine' one_use (f := 101) ?uC ?uB ?uF ?uX ?uN ?uT ?uK ?uU ?ut ?une ?ud ?uu ?ux ?uy ?uy2 ?_; (case uB => k_asm); (case uF => k_asm); (case uX => k_asm); (case uN => k_asm); (case uT => k_asm); (case uK => first | exact rfl | assumption); (case uU => k_updF); (case ut => tb_start); (case une => k_ne); (case ud => k_room); (case uu => ktr_units); (case ux => omega); (case uy => omega); (case uy2 => omega); (case uC => exact one_holds _ _ _ _ _); intro b' x' tx' y' ty' h' tk' hor' hx' hy' hz' F' N'; (try dsimp only at N'); (try dsimp only); (try k_fold))))
local macro_rules | `(tactic| walk_at "call ref") => `(tactic| (k_here; k_dflt (refine' prod_use (f := 108) ?uC ?uB ?uF ?uX ?uN ?uT ?uK ?ud ?uu ?ub1 ?ub2 ?ub3 ?ub4 ?_; (case uB => k_asm); (case uF => k_asm); (case uX => k_asm); (case uN => k_asm); (case uT => k_asm); (case uK => first | exact rfl | assumption); (case ud => k_room); (case uu => ktr_units); (case ub1 => omega); (case ub2 => omega); (case ub3 => omega); (case ub4 => omega); (case uC => exact prod_holds _ _ _ _ _); intro t' h' tk' F' N'; (try dsimp only); (try k_fold))))

local macro_rules | `(tactic| walk_at "compareOp NotEq ref ref") => `(tactic| (k_here; k_dflt (refine' ne_same ?nN ?nma ?nmb ?nDa ?nDb ?nok ?ne ?nu ?_; (case nN => (k_asm)); (case nma => (tb_start)); (case nmb => (tb_start)); (case nDa => (first | (refine' tups_three ?za ?zb ?zc ?zd ?ze ?zf; (case za => with_reducible assumption); (case zb => with_reducible assumption); (case zc => with_reducible assumption); (case zd => with_reducible assumption); (case ze => tb_start); (case zf => tb_start)) | (refine' tups_one ?za ?zb ?zc; (case za => with_reducible assumption); (case zb => tb_start); (case zc => exact grid_mk (by tb_start) (by with_reducible assumption) (by tb_start))))); (case nDb => (first | exact .cons (tup_grid (by tb_start) (grid_mk (by tb_start) (by with_reducible assumption) (by tb_start))) .nil | exact .cons (tup_grid (by tb_start) (grid_mk (by tb_start) (by with_reducible assumption) (by tb_start))) (.cons (tup_grid (by tb_start) (grid_same (by tb_start) (by tb_start))) (.cons (tup_grid (by tb_start) (grid_same (by tb_start) (by tb_start))) .nil)) | exact .cons (tup_const (by tb_start) (by tb_start) (by tb_start)) (.cons (tup_const (by tb_start) (by tb_start) (by tb_start)) (.cons (tup_const (by tb_start) (by tb_start) (by tb_start)) .nil)))); (case nok => (first | exact ok_three | exact ok_one)); (case ne => (rfl)); (case nu => (ke_room)))))
local macro_rules | `(tactic| k_updF) => `(tactic| (refine' updF_app ?ua ?ub; (case ua => first | with_reducible assumption | exact apart_ne (by with_reducible assumption) (by tb_start)); (case ub => k_updF)))
local macro_rules | `(tactic| walk_at "binaryOp Pow int int") => `(tactic| (k_here; (with_reducible show wpAny _ _ (binaryOp .Pow (.int _ _) (.int _ _)) _ _ _); with_unfolding_all (refine m_pow2 (by omega) (by omega) ?_); intro v' hv' hv0' hv1' hv2' hv3' hv4'))
local macro_rules | `(tactic| walk_at "binaryOp Mult ref int") => `(tactic| (k_here; (with_reducible show wpAny _ _ (binaryOp .Mult (.ref _) (.int _ _)) _ _ _); (refine' m_rep ?xF ?xN ?xm ?x0 ?x1 ?_; (case xF => k_asm); (case xN => k_asm); (case xm => k_dflt tb_start); (case x0 => omega); (case x1 => omega)); (intro D' h' F' N' l1); (try k_lt l1)))
local macro_rules | `(tactic| walk_at "CompSrc") => `(tactic| (k_here; k_dflt (refine LCg.CompSrc.ledger (by rfl) (by k_asm) (by k_asm) (by tb_start) (by first | with_reducible assumption | exact rows_size (by with_reducible assumption) (by omega)) ?_); (intro g'); (refine' rest_copy (by with_reducible assumption) (by with_reducible assumption) (by tb_start) ?_ ?_); (intro i' ys' new' I' oI' C' oC' D' m' h' tk' a' us' na' r' E' ap' hr' hg' hm' hu' hsz' hC' hx' F' N' off'); (try k_fold); rotate_left; (intro ys' new' ap' hr'); rotate_left))
local macro_rules | `(tactic| walk_at "CompSrc") => `(tactic| (k_here; k_dflt (refine LCg.CompSrc.range (by rfl) (by k_asm) (by k_asm) (by assumption) (small_one (by omega) (by omega) (by omega) (by omega)) (rangeSize_nat _ _) (by rw [PySem.sizeLine_eq]; omega) ?_); (intro g'); k_dflt (refine' rest_takes (by with_reducible assumption) ?vU ?v1 ?v2 ?v3 ?_ ?_); (case vU => k_updF); (case v1 => omega); (case v2 => omega); (case v3 => omega); (intro i' ys' x' tx' y' ty' r' I' oI' C' oC' D' h' tk' E' hx' hy' hz' hi' hl' hb' F' N' off' ne' hU'); (try dsimp only at N'); (try k_fold); rotate_left; (intro ys' x' tx' y' ty' r' hx' hy' hz' hi' hl' hb'); (try dsimp only); rotate_left))
local macro_rules | `(tactic| walk_at "CompSrc") => `(tactic| (k_here; k_dflt (refine LCg.CompSrc.range (by rfl) (by k_asm) (by k_asm) (by assumption) (small_one (by omega) (by omega) (by omega) (by omega)) (rangeSize_nat _ _) (by rw [PySem.sizeLine_eq]; omega) ?_); (intro g'); k_dflt (refine' rest_takes3 (by with_reducible assumption) ?vU ?v1 ?v2 ?v3 ?_ ?_); (case vU => k_updF); (case v1 => omega); (case v2 => omega); (case v3 => omega); (intro i' ys' x' tx' y' ty' r' I' oI' C' oC' D' h' tk' E' hx' hy' hz' hi' hl' hb' F' N' off' ne' hU'); (try dsimp only at N'); (try k_fold); rotate_left; (intro a' ta' b' tb' c' tc' x' tx' y' ty' hx' hy' hz' ha1' ha2' hb1' hb2' hc1' hc2'); (try dsimp only); rotate_left))
local macro_rules | `(tactic| walk_at "CompSrc") => `(tactic| (k_here; (with_reducible show LCg.CompSrc _ _ _ _ _ _ _ (PySem.Expr.ListComp _ _ _ _) _ _ _ _ _ _); k_dflt (refine LCg.CompSrc.range (by rfl) (by k_asm) (by k_asm) (by assumption) (small_one (by omega) (by omega) (by omega) (by omega)) (rangeSize_nat _ _) (by rw [PySem.sizeLine_eq]; omega) ?_); (intro g'); k_dflt (refine' rest_rows (by with_reducible assumption) ?vU ?v1 ?v2 ?v3 ?_ ?_); (case vU => k_updF); (case v1 => omega); (case v2 => omega); (case v3 => omega); (intro i' ys' x' tx' y' ty' new' rows' I' oI' C' oC' D' h' tk' E' hx' hy' hz' ap' hr' hl' hb' hnd' F' N' off' ne' hU'); (try dsimp only at N'); (try k_fold); rotate_left; (intro ys' x' tx' y' ty' new' rows' hx' hy' hz' ap' hr' hl' hb' hnd'); (try dsimp only); rotate_left))
local macro_rules | `(tactic| walk_at "eval ListComp") => `(tactic| (k_here; (with_reducible show wpAny _ _ (eval (PySem.Expr.ListComp _ [PySem.Comprehension.mk (PySem.Expr.Name _ _) _ _ _] _ _) _) _ _ _); k_dflt (refine LCg.ListComp_U (F₀ := by k_asm) (by with_unfolding_all rfl) (by decide) (by rfl) (by decide) (by rfl) ?_)))
local macro_rules | `(tactic| walk_at "exec Assign cons ListComp") => `(tactic| (k_here; k_dflt (refine LCg.Assign_ListComp_U (F₀ := by k_asm) (by rfl) (by with_unfolding_all rfl) (by with_unfolding_all rfl) (by decide) (by rfl) (by decide) (by rfl) (by rfl) (by rfl) ?_)))
local macro_rules | `(tactic| walk_at "call type:list") => `(tactic| (k_here; (with_reducible show wpAny _ _ (call (Value.type _) [Value.ref _]) _ _ _); (with_unfolding_all refine' list_copyK ?yF ?yN ?yl ?_ ?yz; (case yF => k_asm); (case yN => k_asm); (case yl => exact News.isList (by k_asm) (by k_dflt tb_start)); (case yz => assumption); k_whole); (intro D' c' h' F' N' l1); (try k_lt l1)))
local macro_rules | `(tactic| walk_at "FinE") => `(tactic| ((unfold LCg.FinE); (intro D' h' tk' F' N' o1'); (try dsimp only at N' o1'); (try (have hSrc9 := off1_src (by with_reducible assumption) o1' (by tb_start))); (try dsimp only)))
local macro_rules | `(tactic| walk_at "FinA") => `(tactic| ((unfold LCg.FinA); (intro D' h' tk' F' N' o1'); (try dsimp only at N' o1'); (try (have hSrc9 := off1_src (by with_reducible assumption) o1' (by tb_start))); (try dsimp only)))
local macro_rules | `(tactic| walk_at "CompEnd") => `(tactic| (k_here; (refine' end_one ?eF ?eN ?eq ?eI ?eC ?eD ?es ?en1 ?en2 ?en3 ?eoff ?eS ?er); (case eF => k_asm); (case eN => k_asm); (case eq => exact List.mem_cons_self); (case eI => k_dflt tb_start); (case eC => k_dflt tb_start); (case eD => k_dflt tb_start); (case eoff => k_asm); (case es => tb_start); (case en1 => k_ne); (case en2 => k_ne); (case en3 => k_ne); (case eS => first | exact True.intro | exact Or.inr ⟨_, by k_dflt tb_start, rfl, _, rfl⟩); (case er => exact CopyInv.step (by with_reducible assumption) (by with_reducible assumption) (by with_reducible assumption) (by with_reducible assumption) (fun p hp => (by with_reducible assumption : ∀ p ∈ _, p.1 < _) p (by tb_start)))))
local macro_rules | `(tactic| walk_at "CompEnd") => `(tactic| (k_here; k_dflt (refine' end_row ?eU ?eF ?eN ?eo1 ?eoff ?eap ?er ?el ?eb ?ei ?en ?e1 ?e2 ?e3); (case eU => with_reducible assumption); (case eF => k_asm); (case eN => k_asm); (case eo1 => k_asm); (case eoff => k_asm); (case eap => with_reducible assumption); (case er => with_reducible assumption); (case el => assumption); (case eb => assumption); (case ei => with_reducible assumption); (case en => omega); (case e1 => assumption); (case e2 => assumption); (case e3 => assumption)))
local macro_rules | `(tactic| walk_at "CompEnd") => `(tactic| (k_here; k_dflt (refine' end_take ?eU ?eF ?eN ?eoff ?ei ?el ?eb ?e1 ?e2 ?e3 ?e4 ?e5); (case eU => with_reducible assumption); (case eF => k_asm); (case eN => k_asm); (case eoff => k_asm); (case ei => with_reducible assumption); (case el => assumption); (case eb => assumption); (case e1 => assumption); (case e2 => assumption); (case e3 => assumption); (case e4 => omega); (case e5 => omega)))
local macro_rules | `(tactic| walk_at "exec For Name Call cons nil") => `(tactic| (k_here; (rename Fr _ _ _ _ => lF'); (with_unfolding_all refine' For_invVF lF' ?k1 ?k2 ?_; (case k1 => exact rfl); (case k2 => exact rfl); k_whole)))
local macro_rules | `(tactic| walk_at "pyIter ref") => `(tactic| (k_here; (with_reducible show wpAny _ _ (pyIter (Value.ref _)) (fun it s₂ => LoopAtV _ _ _ _ _ _ _ _ _ it s₂) _ _); k_dflt (refine' range_dbl (Str.ofString "half") (by rfl) (by assumption) (small_one (by omega) (by omega) (by omega) (by omega)) (by k_asm) (by k_asm) (by with_unfolding_all rfl) ?_ ?_); (intro k' t' a' ta' h' tk' own' ho' F' N'); (try k_fold); rotate_left; (intro u' t' h' tk' F' N'); rotate_left))
local macro_rules | `(tactic| walk_at "InvEndN") => `(tactic| (k_here; k_dflt (refine' dbl_end ?iF ?iN ?i1 ?i2); (case iF => k_asm); (case iN => k_asm); (case i1 => with_unfolding_all rfl); (case i2 => (intro z hz1 hz2; simp only [if_neg hz1, if_neg hz2]))))
local macro_rules | `(tactic| walk_at "eval ListComp") => `(tactic| (k_here; (with_reducible show wpAny _ _ (eval (PySem.Expr.ListComp _ [PySem.Comprehension.mk (PySem.Expr.Tuple _ _ _) _ _ _] _ _) _) _ _ _); k_dflt (refine zip_ListComp (by k_asm) (by with_unfolding_all rfl) (by decide) (by rfl) (by decide) (by rfl) (by rfl) (by decide) ?_)))
local macro_rules | `(tactic| walk_at "call type:zip") => `(tactic| (k_here; k_dflt (refine' zip_call (by rfl) ?zF ?zN ?zm1 ?zm2 ?zk1 ?zk2 ?zk3 ?zk4 ?zk5 ?zk6 ?_ ?_); (case zF => k_asm); (case zN => k_asm); (case zm1 => tb_start); (case zm2 => tb_start); (case zk1 => exact ⟨by assumption, by assumption⟩); (case zk2 => exact ⟨by assumption, by assumption⟩); (case zk3 => exact ⟨by assumption, by assumption⟩); (case zk4 => exact ⟨by assumption, by assumption⟩); (case zk5 => exact ⟨by assumption, by assumption⟩); (case zk6 => exact ⟨by assumption, by assumption⟩); (unfold ZipTurn); (intro g' u' t' v' tt' C' oC' D' acc' m' h' tk' own' E' hu1' hu2' hv1' hv2' hC' hx' hy' F' N'); (try k_fold); rotate_left; (intro D' t1' t2' t3' h' tk' F' N' o1'); (try dsimp only); rotate_left))
local macro_rules | `(tactic| walk_at "ZipEnd") => `(tactic| (k_here; (refine' zip_end ?yF ?yN); (case yF => k_asm); (case yN => k_asm)))
local macro_rules | `(tactic| walk_at "call builtin:sum") => `(tactic| (k_here; k_dflt (refine' LSm.sum_ints ?sF ?sN (by rfl) (News.isList ?sN2 ?sm) (.cons _ _ (.cons _ _ (.cons _ _ .nil))) ?_); (case sF => k_asm); (case sN => k_asm); (case sN2 => k_asm); (case sm => tb_start); (intro h' tk' t' F' N')))
local macro_rules | `(tactic| walk_at "compareOp Eq int int") => `(tactic| (k_here; k_dflt (refine' m_eq ?qe ?_); (case qe => k_dflt (exact sum3' _ _ _ _ _ _))))
local macro_rules | `(tactic| wrow_close) => `(tactic| ((show GoodW _ _ _ _ _ (.ok (.ret (.bool true))) _); exact law_good (by k_asm) (by assumption)))
local macro_rules | `(tactic| walk_at "exec If Compare cons nil") => `(tactic| (k_here; (fail_if_success (with_reducible show wpAny _ _ _ (CutNext _ _ _ _ _) _ _)); (refine' cut_next ?cF ?cN ?_ ?_); (case cF => k_asm); (case cN => k_asm); rotate_left; (intro h' tk' F' N'); rotate_left))
local macro_rules | `(tactic| walk_at "CutNext") => `(tactic| ((refine' cut_end ?cF ?cN ?cs); (case cF => k_asm); (case cN => k_asm); (case cs => kcj_in)))
set_option maxRecDepth 100000 in
set_option maxHeartbeats 0 in
theorem PySem.Challenge.cw_xm0805_01_holds : PySem.Challenge.rw_xm0805_01.Holds := by
  exact hd (by
    k_go0
    (all_goals try k_fold)
    k_steps
    (all_goals (try k_data))
    all_goals w_report)
end
end
