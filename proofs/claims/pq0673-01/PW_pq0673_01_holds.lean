import PyProof.Rows.All
import Wide.All
import OpenK.AllK
import Wide.FinOn
import PySem.Challenge.RW_pq0673_01
open PySem PySem.W PyProof.Rows
set_option Elab.async false

namespace Mine
/-- what a cut hands on: a new heap, frame and ledger, and what J says of value and ledger -/
structure CutAt (h₀ : Heap) (L : Addr) (m : Str → Option Value) (s : Shared) (J : Value → List (Addr × Obj) → Prop) (v : Value) (s' : Shared) : Prop where
  out : ∃ (h : Heap) (tk : Nat) (nx : List (Addr × Obj)), s' = ⟨h, s.gens, s.drawn, tk, s.os⟩ ∧ Fr h₀ L h m ∧ News h₀ L h nx ∧ J v nx

section
variable {M : Model} {A : Around} {t : Sem Value} {E : Value → Shared → Prop} {Q : Value → Shared → Prop} {s : Shared} {h₀ h h' : Heap} {L : Addr} {m : Str → Option Value} {g : Array GenState} {d : Drawn} {tk tk₀ : Nat} {os : OsState}
theorem cut (F : Fr h₀ L h m) (J : Value → List (Addr × Obj) → Prop)
    (walk : Fr h₀ L h m → wpAny M A t (CutAt h₀ L m s J) E s)
    (rest : ∀ v h tk nx, Fr h₀ L h m → News h₀ L h nx → J v nx → Q v ⟨h, s.gens, s.drawn, tk, s.os⟩) : wpAny M A t Q E s :=
  wpAny_mono (walk F) (fun v s' c => by
    obtain ⟨h, tk, nx, rfl, F', N', j⟩ := c.out
    exact rest v h tk nx F' N' j) fun _ _ e => e
theorem CutAt.intro {J : Value → List (Addr × Obj) → Prop} {v : Value} {nx news : List (Addr × Obj)}
    (F : Fr h₀ L h m) (N : News h₀ L h news) (hs : ∀ p ∈ nx, p ∈ news) (j : J v nx) : CutAt h₀ L m s J v ⟨h, s.gens, s.drawn, tk, s.os⟩ :=
  ⟨h, tk, nx, rfl, F, fun p hp => N p (hs p hp), j⟩
theorem news_sub {l l' : List (Addr × Obj)} (N : News h₀ L h l) (hs : ∀ p ∈ l', p ∈ l) : News h₀ L h l' := fun p hp => N p (hs p hp)

abbrev handObj (D0 : Addr) (t : Int) (tt : Tok) : Obj := W.listOf #[Value.ref D0, Value.int t tt] 0
/-- what a call of _law_dealt hands on: an int from 0 below n; the hand's turn is one more -/
def DealtJ (n : Int) (lh D0 : Addr) (t : Int) (rest : List (Addr × Obj)) (v : Value) (nx : List (Addr × Obj)) : Prop :=
  ∃ r tr tt, v = .int r tr ∧ 0 ≤ r ∧ r < n ∧ nx = (lh, handObj D0 t tt) :: rest
theorem fmod_in {a n : Int} (h : 0 < n) : 0 ≤ Int.fmod a n ∧ Int.fmod a n < n := ⟨Int.fmod_nonneg_of_pos a h, Int.fmod_lt_of_pos a h⟩
theorem DealtJ.intro {n a k : Int} {lh D0 : Addr} {tr tt : Tok} {rest : List (Addr × Obj)} (h : 0 < n) : DealtJ n lh D0 k rest (.int (Int.fmod a n) tr) ((lh, handObj D0 k tt) :: rest) :=
  ⟨_, _, _, rfl, (fmod_in h).1, (fmod_in h).2, rfl⟩
theorem cut_dealt {lh D0 : Addr} {k : Int} {tt₀ : Tok} {rest : List (Addr × Obj)}
    (n : Int) (F : Fr h₀ L h m) (N : News h₀ L h ((lh, handObj D0 k tt₀) :: rest))
    (walk : Fr h₀ L h m → News h₀ L h ((lh, handObj D0 k tt₀) :: rest) → wpAny M A t (CutAt h₀ L m ⟨h, g, d, tk, os⟩ (DealtJ n lh D0 (k + 1) rest)) E ⟨h, g, d, tk, os⟩)
    (done : ∀ r tr h tk tt, 0 ≤ r → r < n → Fr h₀ L h m → News h₀ L h ((lh, handObj D0 (k + 1) tt) :: rest) → Q (.int r tr) ⟨h, g, d, tk, os⟩) : wpAny M A t Q E ⟨h, g, d, tk, os⟩ := by
  refine cut F (DealtJ n lh D0 (k + 1) rest) (fun F => walk F N) ?_
  rintro v h tk nx F' N' ⟨r, tr, tt, rfl, h0, h1, rfl⟩
  exact done r tr h tk tt h0 h1 F' N'
end

/-- a piece: none, or bytes -/
def PieceIn (v : Value) (p : Option (Array UInt8)) : Prop := (v = .none ∧ p = none) ∨ ∃ b t, v = .bytes b t ∧ p = some b ∧ b.size ≤ 7
def Pieces (vs : List Value) (ps : List (Option (Array UInt8))) : Prop := vs.length = ps.length ∧ ∀ (i : Nat) (v : Value), vs[i]? = some v → ∃ p, ps[i]? = some p ∧ PieceIn v p
theorem Pieces.nil : Pieces [] [] := ⟨rfl, fun i v h => by simp at h⟩
theorem Pieces.snoc {vs : List Value} {ps : List (Option (Array UInt8))} {v : Value} {p : Option (Array UInt8)} (h : Pieces vs ps) (hv : PieceIn v p) : Pieces (vs ++ [v]) (ps ++ [p]) := by
  refine ⟨by rw [List.length_append, List.length_append, h.1]; rfl, fun i u hu => ?_⟩
  rcases Nat.lt_trichotomy i vs.length with hi | hi | hi
  · rw [List.getElem?_append_left hi] at hu
    obtain ⟨q, hq, hp⟩ := h.2 i u hu
    exact ⟨q, by rw [List.getElem?_append_left (h.1 ▸ hi)]; exact hq, hp⟩
  · subst hi
    simp at hu
    subst hu
    exact ⟨p, by rw [h.1]; simp, hv⟩
  · rw [List.getElem?_eq_none (by simp; omega)] at hu
    cases hu
section
variable {prog : Program} {w : World} {A : Around} {E : Value → Shared → Prop} {s : Shared} {env : Env} {h₀ : Heap} {x y : Str} {body : List Stmt} {Q : Flow → Shared → Prop}
def TurnsJ (lh lp D0 : Addr) (t₀ : Int) (rest : List (Addr × Obj)) (x y : Str) (m₀ : Str → Option Value) (i : Nat) (m : Str → Option Value) (nx : List (Addr × Obj)) : Prop :=
  ∃ vs ps tt nn, nx = (lh, handObj D0 (t₀ + i) tt) :: (lp, W.listOf (List.toArray vs) nn) :: rest ∧ ps.length = i ∧ Pieces vs ps ∧ ∀ z, z ≠ x → z ≠ y → m z = m₀ z
theorem turns_loop {hs : Heap} {g : Array GenState} {d : Drawn} {tks : Nat} {os : OsState} {L r lh lp D0 : Addr} {b₀ t₀ : Int} {t₁ u₁ v₁ tt₀ : Tok} {nn₀ : Nat} {m₀ : Str → Option Value} {rest : List (Addr × Obj)}
    (hL : env.locals = L) (hh : A.handled = none) (hr : IsRange hs r 0 b₀ 1 t₁ u₁ v₁) (hb0 : 0 ≤ b₀) (hb1 : b₀ < 7) (F : Fr h₀ L hs m₀)
    (N : News h₀ L hs ((lh, handObj D0 t₀ tt₀) :: (lp, W.listOf (List.toArray []) nn₀) :: rest))
    (turn : ∀ (i : Nat) t vs ps u tt nn h tk own, i < 7 → ps.length = i → Pieces vs ps → OwnOff own (lh :: lp :: rest.map (·.1)) →
      Fr h₀ L h (fun z => if z = x then some (.int i t) else if z = y then u else m₀ z) → News h₀ L h ((lh, handObj D0 (t₀ + i) tt) :: (lp, W.listOf (List.toArray vs) nn) :: (rest ++ own)) →
      wpAny (model prog w) A (execs body env) (InvPostG h₀ L (TurnsJ lh lp D0 t₀ rest x y m₀ (i + 1)) own ⟨h, g, d, tk, os⟩ Q) E ⟨h, g, d, tk, os⟩)
    (done : ∀ t vs ps u u' tt nn h tk, t₀ ≤ t → t < t₀ + 7 → ps.length < 7 → Pieces vs ps → Fr h₀ L h (fun z => if z = x then u' else if z = y then u else m₀ z) →
      News h₀ L h ((lh, handObj D0 t tt) :: (lp, W.listOf (List.toArray vs) nn) :: rest) → Q .next ⟨h, g, d, tk, os⟩) :
    wpAny (model prog w) A (pyIter (.ref r)) (fun it s₂ => LoopAtV prog w A h₀ env x body Q E it s₂) E ⟨hs, g, d, tks, os⟩ := by
  subst hL
  obtain ⟨n, rfl⟩ : ∃ n : Nat, b₀ = n := ⟨b₀.toNat, by omega⟩
  have hsmall : Builtin.Range.small 0 (n : Int) 1 = true := by
    clear N F hr
    have h7 : n = 0 ∨ n = 1 ∨ n = 2 ∨ n = 3 ∨ n = 4 ∨ n = 5 ∨ n = 6 := by omega
    rcases h7 with rfl | rfl | rfl | rfl | rfl | rfl | rfl <;> decide
  have hsz : Builtin.Range.rangeSize 0 (n : Int) 1 = (n : Int) := by
    clear N F hr
    have h7 : n = 0 ∨ n = 1 ∨ n = 2 ∨ n = 3 ∨ n = 4 ∨ n = 5 ∨ n = 6 := by omega
    rcases h7 with rfl | rfl | rfl | rfl | rfl | rfl | rfl <;> decide
  refine wpAny_pyIter_range hr hsmall ?_
  have W : Walks prog w A hs.objs.size [hs.objs.size] [hs.objs.size] n (fun i v => i < n ∧ ∃ t, v = .int (0 + i * 1) t)
      (fun i h => IsRangeIter h hs.objs.size (0 + (i : Nat) * 1) ((n : Int) - (i : Nat)) 1) := (Walks.range hh _ 0 1 n).bound
  refine kdr_loop (TurnsJ lh lp D0 t₀ rest x y m₀) W (fun _ h => h) (fun _ h => h) ?_ ?_ ?_ ?_ (by show IsRangeIter _ _ _ _ _; rw [hsz]; simpa using Heap.get?_push_size _ rfl) (F.push _)
    (fun p hp => ⟨Heap.get?_push_of_some _ (N p hp).1, (N p hp).2⟩) ⟨[], [], tt₀, nn₀, by simp, rfl, .nil, fun _ _ _ => rfl⟩ ?_ ?_
  · intro i h hi b hb
    rw [List.mem_singleton.mp hb]
    exact ⟨_, hi⟩
  · intro hm
    exact absurd F.ns.lt ((List.mem_singleton.mp hm) ▸ Nat.lt_irrefl _)
  · intro b hb
    rw [List.mem_singleton.mp hb]
    exact next_is_new F
  · intro p hp hI
    exact absurd (Heap.lt_size (N p hp).1) ((List.mem_singleton.mp hI) ▸ Nat.lt_irrefl _)
  · rintro i v m₁ nx h tk own hi ⟨_, t, rfl⟩ hoff ⟨vs, ps, tt, nn, rfl, hl, hp, hm⟩ F₁ N₁
    have e1 : (0 : Int) + (i : Int) * 1 = (i : Int) := by omega
    rw [e1] at F₁
    refine turn i t vs ps (m₁ y) tt nn h tk own (by omega) hl hp hoff ?_ N₁
    have em : (fun z => if z = x then some (Value.int i t) else m₁ z) = fun z => if z = x then some (Value.int i t) else if z = y then m₁ y else m₀ z := by
      funext z
      by_cases h1 : z = x
      · rw [if_pos h1, if_pos h1]
      · rw [if_neg h1, if_neg h1]
        by_cases h2 : z = y
        · rw [if_pos h2, h2]
        · rw [if_neg h2, hm z h1 h2]
    rw [← em]
    exact F₁
  · rintro m₁ nx h tk ⟨vs, ps, tt, nn, rfl, hl, hp, hm⟩ F₁ N₁
    refine done _ vs ps (m₁ y) (m₁ x) tt nn h tk (by omega) (by omega) (by omega) hp ?_ N₁
    have em : (fun z => if z = x then m₁ x else if z = y then m₁ y else m₀ z) = m₁ := by
      funext z
      by_cases h1 : z = x
      · rw [if_pos h1, h1]
      · rw [if_neg h1]
        by_cases h2 : z = y
        · rw [if_pos h2, h2]
        · rw [if_neg h2, hm z h1 h2]
    rw [em]
    exact F₁
end

section
variable {prog : Program} {w : World} {A : Around} {E : Value → Shared → Prop} {s : Shared} {h₀ : Heap} {L D : Addr} {m : Str → Option Value} {news news' : List (Addr × Obj)}
theorem append_L {vs : List Value} {n : Nat} {x : Value} {Q : Value → Shared → Prop} (F : Fr h₀ L s.heap m) (N : News h₀ L s.heap news) (U : Upd D (W.listOf (List.toArray vs) n) (W.listOf (List.toArray (vs ++ [x])) (n + 1)) news news')
    (hsz : vs.length ≤ 1000000) (h : ∀ h', Fr h₀ L h' m → News h₀ L h' news' → Q .none { s with heap := h' }) : wpAny (model prog w) A (call (.builtin "list.append") [.ref D, x]) Q E s := by
  have e : (List.toArray vs).push x = List.toArray (vs ++ [x]) := by simp
  refine append_K (its := List.toArray vs) F N (by rw [e]; exact U) h ?_
  rw [List.size_toArray, sizeLine_eq]
  omega
theorem Pieces.le {vs : List Value} {ps : List (Option (Array UInt8))} {n : Nat} (h : Pieces vs ps) (hn : ps.length ≤ n) : vs.length ≤ n := by rw [h.1]; exact hn
theorem PieceIn.none : PieceIn .none none := .inl ⟨rfl, rfl⟩
theorem PieceIn.bytes (b : Array UInt8) (t : Tok) (h : b.size ≤ 7) : PieceIn (.bytes b t) (some b) := .inr ⟨b, t, rfl, rfl, h⟩
end

section
variable {s₁ : Shared} {h₀ h' : Heap} {L lh lp D0 : Addr} {t₀ k : Int} {m₀ m' : Str → Option Value} {x y : Str} {rest own : List (Addr × Obj)} {i nn tk : Nat} {tt : Tok} {vs : List Value} {ps : List (Option (Array UInt8))} {v : Value} {p : Option (Array UInt8)}
theorem turn_end (F : Fr h₀ L h' m') (N : News h₀ L h' ((lh, handObj D0 (t₀ + i + 1) tt) :: (lp, W.listOf (List.toArray (vs ++ [v])) nn) :: (rest ++ own))) (hp : Pieces vs ps) (hl : ps.length = i) (hv : PieceIn v p)
    (hoff : OwnOff own (lh :: lp :: rest.map (·.1))) (hm : ∀ z, z ≠ x → z ≠ y → m' z = m₀ z) :
    InvEndG h₀ L (TurnsJ lh lp D0 t₀ rest x y m₀ (i + 1)) own s₁ { s₁ with heap := h', toks := tk } := by
  have e : t₀ + (i : Int) + 1 = t₀ + ((i + 1 : Nat) : Int) := by omega
  rw [e] at N
  refine InvEndG.intro F N (nx := (lh, handObj D0 (t₀ + ((i + 1 : Nat) : Int)) tt) :: (lp, W.listOf (List.toArray (vs ++ [v])) nn) :: rest) ⟨_, ps ++ [p], _, _, rfl, by simp [hl], hp.snoc hv, hm⟩ hoff (fun q hq => ?_) (fun q hq => ?_)
  · rcases List.mem_cons.mp hq with rfl | hq
    · exact .head _
    · rcases List.mem_cons.mp hq with rfl | hq
      · exact .tail _ (.head _)
      · exact .tail _ (.tail _ (List.mem_append.mpr (.inl hq)))
  · exact .tail _ (.tail _ (List.mem_append.mpr (.inr hq)))
end

theorem fr_cast {h₀ h : Heap} {L : Addr} {m m' : Str → Option Value} (F : Fr h₀ L h m) (e : m = m') : Fr h₀ L h m' := e ▸ F

/-- what the last draw hands on: none or bytes -/
def LastJ (lh D0 : Addr) (t : Int) (rest : List (Addr × Obj)) (v : Value) (nx : List (Addr × Obj)) : Prop := ∃ p tt, PieceIn v p ∧ nx = (lh, handObj D0 t tt) :: rest
theorem LastJ.intro {lh D0 : Addr} {t : Int} {rest : List (Addr × Obj)} {v : Value} {p : Option (Array UInt8)} {tt : Tok} (h : PieceIn v p) : LastJ lh D0 t rest v ((lh, handObj D0 t tt) :: rest) := ⟨p, tt, h, rfl⟩
section
variable {M : Model} {A : Around} {t : Sem Value} {E : Value → Shared → Prop} {Q : Value → Shared → Prop} {s : Shared} {h₀ h h' : Heap} {L : Addr} {m : Str → Option Value} {g : Array GenState} {d : Drawn} {tk tk₀ : Nat} {os : OsState}
theorem cut_last {lh D0 : Addr} {k : Int} {tt₀ : Tok} {rest : List (Addr × Obj)}
    (F : Fr h₀ L h m) (N : News h₀ L h ((lh, handObj D0 k tt₀) :: rest))
    (walk : Fr h₀ L h m → News h₀ L h ((lh, handObj D0 k tt₀) :: rest) → wpAny M A t (CutAt h₀ L m ⟨h, g, d, tk, os⟩ (LastJ lh D0 (k + 1) rest)) E ⟨h, g, d, tk, os⟩)
    (done : ∀ v p h tk tt, PieceIn v p → Fr h₀ L h m → News h₀ L h ((lh, handObj D0 (k + 1) tt) :: rest) → Q v ⟨h, g, d, tk, os⟩) : wpAny M A t Q E ⟨h, g, d, tk, os⟩ := by
  refine cut F (LastJ lh D0 (k + 1) rest) (fun F => walk F N) ?_
  rintro v h tk nx F' N' ⟨p, tt, hp, rfl⟩
  exact done v p h tk tt hp F' N'
end

theorem news_swap {h₀ h : Heap} {L : Addr} {a b : Addr × Obj} {r : List (Addr × Obj)} (N : News h₀ L h (a :: b :: r)) : News h₀ L h (b :: a :: r) :=
  news_sub N fun p hp => by
    rcases List.mem_cons.mp hp with rfl | hp
    · exact .tail _ (.head _)
    · rcases List.mem_cons.mp hp with rfl | hp
      · exact .head _
      · exact .tail _ (.tail _ hp)

-- THE PLAIN LAW
abbrev Bts := Array UInt8
/-- what the k-th asking gives -/
def askAt (ps : List (Option Bts)) (last : Option Bts) (k : Nat) : Option Bts := if k < ps.length then ps.getD k none else last
-- none: nothing comes; some none: too long; some (some b): b is found
abbrev Res := Option (Option Bts)
/-- the asking from where f is found and k are asked, to its end -/
inductive Run (p : Nat → Option Bts) (most : Int) : Bts → Nat → Res → Nat → Prop
  | nothing {f : Bts} {k : Nat} : p k = none → Run p most f k none (k + 1)
  | done {f b : Bts} {k : Nat} : p k = some b → b.size = 0 → Run p most f k (some (some f)) (k + 1)
  | long {f b : Bts} {k : Nat} : p k = some b → b.size ≠ 0 → most < ((f ++ b).size : Int) → Run p most f k (some none) (k + 1)
  | more {f b : Bts} {k : Nat} {r : Res} {n : Nat} : p k = some b → b.size ≠ 0 → ((f ++ b).size : Int) ≤ most → Run p most (f ++ b) (k + 1) r n → Run p most f k r n

section
variable {prog : Program} {w : World} {A : Around} {E : Value → Shared → Prop} {env : Env} {test : PySem.Expr} {body orelse : List Stmt} {Q : Flow → Shared → Prop}
/-- a turn's end: the next state, of a lesser measure; or the loop is left -/
def WhlNext {ι : Type} (J : ι → Shared → Prop) (μ : ι → Nat) (i : ι) (Q : Flow → Shared → Prop) (f : Flow) (s : Shared) : Prop :=
  match f with
  | .next => ∃ j, μ j < μ i ∧ J j s
  | .cont => ∃ j, μ j < μ i ∧ J j s
  | .brk => Q .next s
  | .ret v => Q (.ret v) s
theorem whl_inv {ι : Type} (J : ι → Shared → Prop) (μ : ι → Nat) (hE : PassesOwn (model prog w) A env E)
    (turn : ∀ i s, J i s → wpAny (model prog w) A (isTrue test env (eval test env)) (fun b s₂ => WhlIf b (wpAny (model prog w) A (execs body env) (WhlNext J μ i Q) E s₂) (wpAny (model prog w) A (execs orelse env) Q E s₂)) E s)
    (n : Nat) : ∀ i s, μ i < n → J i s → WhlRest prog w A E env test body orelse Q 0 s := by
  induction n with
  | zero => intro i s h; omega
  | succ n ih =>
    intro i s hi hJ
    refine whl_turn (k := 0) hE (wpAny_mono (turn i s hJ) (fun b s₂ h₂ => ?_) fun _ _ e => e)
    cases b with
    | false => exact h₂
    | true =>
      refine WhlIf.yes rfl (wpAny_mono (show wpAny (model prog w) A (execs body env) (WhlNext J μ i Q) E s₂ from h₂) (fun f s₃ h₃ => ?_) fun _ _ e => e)
      cases f with
      | next =>
        obtain ⟨j, hj, hJ'⟩ := h₃
        exact ih j s₃ (by omega) hJ'
      | cont =>
        obtain ⟨j, hj, hJ'⟩ := h₃
        exact ih j s₃ (by omega) hJ'
      | brk => exact h₃
      | ret v => exact h₃
theorem whl_exec {ι : Type} (J : ι → Shared → Prop) (μ : ι → Nat) {pos : Pos} {i : ι} {s : Shared} (hE : PassesOwn (model prog w) A env E) (h0 : J i s)
    (turn : ∀ i s, J i s → wpAny (model prog w) A (isTrue test env (eval test env)) (fun b s₂ => WhlIf b (wpAny (model prog w) A (execs body env) (WhlNext J μ i Q) E s₂) (wpAny (model prog w) A (execs orelse env) Q E s₂)) E s) :
    wpAny (model prog w) A (exec (.While test body orelse pos) env) Q E s :=
  whl_start 0 (whl_inv J μ hE turn (μ i + 1) i s (by omega) h0)
end
theorem fr_known {h₀ h : Heap} {L : Addr} {m : Str → Option Value} (ps : List (Str × Value)) (F : Fr h₀ L h m) (hk : ∀ p ∈ ps, m p.1 = some p.2) : Fr h₀ L h (kstB m ps) := by
  refine fr_cast F ?_
  induction ps with
  | nil => rfl
  | cons p r ih =>
    funext z
    show m z = if z = p.1 then some p.2 else kstB m r z
    by_cases e : z = p.1
    · rw [if_pos e, e]; exact hk p (.head _)
    · rw [if_neg e]; exact congrFun (ih fun q hq => hk q (.tail _ hq)) z

section
variable {M : Model} {A : Around} {t : Sem Value} {E : Value → Shared → Prop} {Q : Value → Shared → Prop} {h₀ h : Heap} {L : Addr} {m : Str → Option Value} {g : Array GenState} {d : Drawn} {tk : Nat} {os : OsState} {news : List (Addr × Obj)}
theorem cut_same (J : Value → Prop) (F : Fr h₀ L h m) (N : News h₀ L h news)
    (walk : Fr h₀ L h m → News h₀ L h news → wpAny M A t (CutAt h₀ L m ⟨h, g, d, tk, os⟩ (fun v nx => J v ∧ nx = news)) E ⟨h, g, d, tk, os⟩)
    (done : ∀ v h tk, J v → Fr h₀ L h m → News h₀ L h news → Q v ⟨h, g, d, tk, os⟩) : wpAny M A t Q E ⟨h, g, d, tk, os⟩ := by
  refine cut F (fun v nx => J v ∧ nx = news) (fun F => walk F N) ?_
  rintro v h tk nx F' N' ⟨hv, rfl⟩
  exact done v h tk hv F' N'
end
/-- the value that says a result: of _law_due -/
def DueV : Res → Value → Prop
  | none, v => ∃ t, v = .str (Str.ofString "nothing") t
  | some (some b), v => ∃ t, v = .bytes b t
  | some none, v => ∃ t, v = .str (Str.ofString "too long") t
def DueJ (p : Nat → Option Bts) (most : Int) (news : List (Addr × Obj)) (v : Value) (nx : List (Addr × Obj)) : Prop :=
  ∃ a tt n r dv, v = .ref a ∧ nx = (a, ({ cls := .type "tuple", data := .seq #[dv, .int ((n : Nat) : Int) tt] } : Obj)) :: news ∧ Run p most #[] 0 r n ∧ DueV r dv
section
variable {M : Model} {A : Around} {t : Sem Value} {E : Value → Shared → Prop} {Q : Value → Shared → Prop} {h₀ h : Heap} {L : Addr} {m : Str → Option Value} {g : Array GenState} {d : Drawn} {tk : Nat} {os : OsState} {news : List (Addr × Obj)}
theorem cut_due (p : Nat → Option Bts) (most : Int) (F : Fr h₀ L h m) (N : News h₀ L h news)
    (walk : Fr h₀ L h m → News h₀ L h news → wpAny M A t (CutAt h₀ L m ⟨h, g, d, tk, os⟩ (DueJ p most news)) E ⟨h, g, d, tk, os⟩)
    (done : ∀ a tt n r dv h tk, Run p most #[] 0 r n → DueV r dv → Fr h₀ L h m → News h₀ L h ((a, ({ cls := .type "tuple", data := .seq #[dv, .int ((n : Nat) : Int) tt] } : Obj)) :: news) → Q (.ref a) ⟨h, g, d, tk, os⟩) : wpAny M A t Q E ⟨h, g, d, tk, os⟩ := by
  refine cut F (DueJ p most news) (fun F => walk F N) ?_
  rintro v h tk nx F' N' ⟨a, tt, n, r, dv, rfl, rfl, hr, hd⟩
  exact done a tt n r dv h tk hr hd F' N'
end
/-- what holds between the turns of _law_due -/
def DueInv (G : Heap) (L : Addr) (g : Array GenState) (d : Drawn) (os : OsState) (news : List (Addr × Obj)) (lp : Addr) (vl : Value) (tm : Tok) (p : Nat → Option Bts) (most : Int) (c : Bts × Nat) (s : Shared) : Prop :=
  ∃ h tk m tf ta, s = ⟨h, g, d, tk, os⟩ ∧ Fr G L h m ∧ News G L h news ∧
    (∀ q ∈ [(Str.ofString "found", Value.bytes c.1 tf), (Str.ofString "asked", Value.int (c.2 : Int) ta), (Str.ofString "pieces", Value.ref lp), (Str.ofString "last", vl), (Str.ofString "most", Value.int most tm)], m q.1 = some q.2) ∧
    (c.1.size : Int) ≤ most ∧ c.2 ≤ c.1.size ∧ ∀ r n, Run p most c.1 c.2 r n → Run p most #[] 0 r n

theorem news_tail {h₀ h : Heap} {L : Addr} {a : Addr × Obj} {r : List (Addr × Obj)} (N : News h₀ L h (a :: r)) : News h₀ L h r := fun p hp => N p (.tail _ hp)
section
variable {prog : Program} {w : World} {A : Around} {E : Value → Shared → Prop} {s : Shared} {h₀ : Heap} {L lp : Addr} {news : List (Addr × Obj)} {vs : List Value} {ps : List (Option Bts)} {nn : Nat} {Q : Value → Shared → Prop}
theorem len_piece (N : News h₀ L s.heap news) (hm : (lp, W.listOf (List.toArray vs) nn) ∈ news) (hp : Pieces vs ps) (hfit : ps.length ≤ 1000)
    (h : Q (.int (ps.length : Int) (s.toks + 1)) { s with toks := s.toks + 1 + 1 }) : wpAny (model prog w) A (call (.builtin "len") [.ref lp]) Q E s := by
  have hl : s.heap.IsList lp (List.toArray vs) := ⟨_, (N _ hm).1, rfl, nn, rfl⟩
  have e : (List.toArray vs).size = ps.length := by rw [List.size_toArray, hp.1]
  exact len_list hl (by rw [e]; omega) (by rw [e]; exact h)
theorem item_piece {value slice : PySem.Expr} {k : Int} {u : Tok} (N : News h₀ L s.heap news) (hm : (lp, W.listOf (List.toArray vs) nn) ∈ news) (hp : Pieces vs ps) (h0 : 0 ≤ k) (h1 : k < (ps.length : Int)) (hfit : ps.length ≤ 1000)
    (h : ∀ v, PieceIn v (ps.getD k.toNat none) → Q v s)
    (hs : subscripted slice false (.ref lp) (.int k u) = operate [.ref lp, .int k u] (getItem (.ref lp) (.int k u)) := by with_unfolding_all rfl) :
    wpAny (model prog w) A (subscriptTail value slice (.ref lp) (.int k u)) Q E s := by
  have hl : s.heap.IsList lp (List.toArray vs) := ⟨_, (N _ hm).1, rfl, nn, rfl⟩
  have hk : k.toNat < vs.length := by rw [hp.1]; omega
  obtain ⟨q, hq, hv⟩ := hp.2 k.toNat _ (List.getElem?_eq_getElem hk)
  have e : ps.getD k.toNat none = q := by rw [List.getD_eq_getElem?_getD, hq]; rfl
  exact tail_any hl.typeIs slot_list_getitem.lookup (wpAny_getItem_list hl h0 (by omega) (show (List.toArray vs)[k.toNat]? = some (vs[k.toNat]'hk) by rw [List.getElem?_toArray]; exact List.getElem?_eq_getElem hk) (h _ (by rw [e]; exact hv))) hs
theorem askAt_in {ps : List (Option Bts)} {last : Option Bts} {k : Nat} (h : k < ps.length) : askAt ps last k = ps.getD k none := if_pos h
theorem askAt_out {ps : List (Option Bts)} {last : Option Bts} {k : Nat} (h : ¬ k < ps.length) : askAt ps last k = last := if_neg h
end

theorem DueJ.intro {p : Nat → Option Bts} {most : Int} {news : List (Addr × Obj)} {a : Addr} {tt : Tok} {k : Nat} {r : Res} {dv : Value} (h : Run p most #[] 0 r (k + 1)) (hd : DueV r dv) :
    DueJ p most news (.ref a) ((a, ({ cls := .type "tuple", data := .seq #[dv, .int ((k : Int) + 1) tt] } : Obj)) :: news) := ⟨a, tt, k + 1, r, dv, rfl, rfl, h, hd⟩
theorem askAt_some {ps : List (Option Bts)} {pl : Option Bts} {k : Nat} {v : Value} (h : (k : Int) < (ps.length : Int)) (hv : PieceIn v (ps.getD (Int.toNat (k : Int)) none)) : PieceIn v (askAt ps pl k) := by
  rw [askAt_in (by omega)]
  exact hv
theorem askAt_last {ps : List (Option Bts)} {pl : Option Bts} {k : Nat} {v : Value} (h : ¬ (k : Int) < (ps.length : Int)) (hv : PieceIn v pl) : PieceIn v (askAt ps pl k) := by
  rw [askAt_out (by omega)]
  exact hv

theorem size_none {b : Bts} (h : (b.toList == (List.toArray ([] : List UInt8)).toList) = true) : b.size = 0 := by
  have e := beq_iff_eq.mp h
  have e2 : b.toList.length = 0 := by rw [e]; rfl
  rw [Array.length_toList] at e2
  exact e2
theorem size_some {b : Bts} (h : (b.toList == (List.toArray ([] : List UInt8)).toList) = false) : b.size ≠ 0 := by
  intro e
  have e2 : b = #[] := Array.eq_empty_of_size_eq_zero e
  subst e2
  exact absurd h (by decide)
theorem due_next {G h : Heap} {L lp : Addr} {g : Array GenState} {d : Drawn} {os : OsState} {news : List (Addr × Obj)} {vl : Value} {tm tf ta : Tok} {p : Nat → Option Bts} {most : Int} {f b : Bts} {k tk : Nat} {m : Str → Option Value} {Q : Flow → Shared → Prop}
    (F : Fr G L h m) (N : News G L h news)
    (hm : ∀ q ∈ [(Str.ofString "found", Value.bytes (f ++ b) tf), (Str.ofString "asked", Value.int ((k : Int) + 1) ta), (Str.ofString "pieces", Value.ref lp), (Str.ofString "last", vl), (Str.ofString "most", Value.int most tm)], m q.1 = some q.2)
    (hv : p k = some b) (hb : b.size ≠ 0) (hle : ¬ most < ((f ++ b).size : Int)) (hkf : k ≤ f.size) (hrun : ∀ r n, Run p most f k r n → Run p most #[] 0 r n) :
    WhlNext (DueInv G L g d os news lp vl tm p most) (fun c => (most + 1 - (c.1.size : Int)).toNat) (f, k) Q .next ⟨h, g, d, tk, os⟩ := by
  have hs : (f ++ b).size = f.size + b.size := Array.size_append
  refine ⟨(f ++ b, k + 1), ?_, h, tk, m, tf, ta, rfl, F, N, hm, ?_, ?_, fun r n x => hrun r n (.more hv hb (by omega) x)⟩
  · show (most + 1 - ((f ++ b).size : Int)).toNat < (most + 1 - (f.size : Int)).toNat
    omega
  · show ((f ++ b).size : Int) ≤ most
    omega
  · show k + 1 ≤ (f ++ b).size
    omega

-- what the run says, read off its first step
theorem Run.at_none {p : Nat → Option Bts} {most : Int} {f : Bts} {k : Nat} {r : Res} {n : Nat} (R : Run p most f k r n) (h : p k = none) : r = none ∧ n = k + 1 := by
  cases R with
  | nothing _ => exact ⟨rfl, rfl⟩
  | done h1 _ => rw [h] at h1; cases h1
  | long h1 _ _ => rw [h] at h1; cases h1
  | more h1 _ _ _ => rw [h] at h1; cases h1
theorem Run.at_done {p : Nat → Option Bts} {most : Int} {f b : Bts} {k : Nat} {r : Res} {n : Nat} (R : Run p most f k r n) (h : p k = some b) (hb : b.size = 0) : r = some (some f) ∧ n = k + 1 := by
  cases R with
  | nothing h1 => rw [h] at h1; cases h1
  | done h1 _ => exact ⟨rfl, rfl⟩
  | long h1 h2 _ => rw [h] at h1; cases h1; exact absurd hb h2
  | more h1 h2 _ _ => rw [h] at h1; cases h1; exact absurd hb h2
theorem Run.at_long {p : Nat → Option Bts} {most : Int} {f b : Bts} {k : Nat} {r : Res} {n : Nat} (R : Run p most f k r n) (h : p k = some b) (hb : b.size ≠ 0) (hl : most < ((f ++ b).size : Int)) : r = some none ∧ n = k + 1 := by
  cases R with
  | nothing h1 => rw [h] at h1; cases h1
  | done h1 h2 => rw [h] at h1; cases h1; exact absurd h2 hb
  | long h1 _ _ => exact ⟨rfl, rfl⟩
  | more h1 _ h3 _ => rw [h] at h1; cases h1; omega
theorem Run.at_more {p : Nat → Option Bts} {most : Int} {f b : Bts} {k : Nat} {r : Res} {n : Nat} (R : Run p most f k r n) (h : p k = some b) (hb : b.size ≠ 0) (hl : ((f ++ b).size : Int) ≤ most) : Run p most (f ++ b) (k + 1) r n := by
  cases R with
  | nothing h1 => rw [h] at h1; cases h1
  | done h1 h2 => rw [h] at h1; cases h1; exact absurd h2 hb
  | long h1 _ h3 => rw [h] at h1; cases h1; omega
  | more h1 _ _ h4 => rw [h] at h1; cases h1; exact h4
def FoundV : Res → Value → Prop
  | none, v => v = .none
  | some (some b), v => ∃ t, v = .bytes b t
  | some none, v => ∃ t, v = .int (-1) t
def FoundJ (lsn : Addr) (rest : List (Addr × Obj)) (r : Res) (n : Nat) (v : Value) (nx : List (Addr × Obj)) : Prop :=
  ∃ us nu, FoundV r v ∧ us.length = n ∧ nx = (lsn, W.listOf (List.toArray us) nu) :: rest
/-- what an asking hands on: the piece; one more is seen -/
def AskJ (lsn : Addr) (rest : List (Addr × Obj)) (p : Option Bts) (us : List Value) (v : Value) (nx : List (Addr × Obj)) : Prop :=
  ∃ u nu, PieceIn v p ∧ nx = (lsn, W.listOf (List.toArray (us ++ [u])) nu) :: rest
theorem AskJ.intro {lsn : Addr} {rest : List (Addr × Obj)} {p : Option Bts} {us : List Value} {v u : Value} {nu : Nat} (h : PieceIn v p) : AskJ lsn rest p us v ((lsn, W.listOf (List.toArray (us ++ [u])) nu) :: rest) := ⟨u, nu, h, rfl⟩
theorem FoundJ.intro {lsn : Addr} {rest : List (Addr × Obj)} {r : Res} {n : Nat} {us : List Value} {v : Value} {nu : Nat} (h : FoundV r v) (hl : us.length = n) : FoundJ lsn rest r n v ((lsn, W.listOf (List.toArray us) nu) :: rest) := ⟨us, nu, h, hl, rfl⟩
section
variable {M : Model} {A : Around} {t : Sem Value} {E : Value → Shared → Prop} {Q : Value → Shared → Prop} {h₀ h : Heap} {L lsn : Addr} {m : Str → Option Value} {g : Array GenState} {d : Drawn} {tk nu : Nat} {os : OsState} {us : List Value} {rest : List (Addr × Obj)}
theorem cut_found (r : Res) (n : Nat) (F : Fr h₀ L h m) (N : News h₀ L h ((lsn, W.listOf (List.toArray us) nu) :: rest))
    (walk : Fr h₀ L h m → News h₀ L h ((lsn, W.listOf (List.toArray us) nu) :: rest) → wpAny M A t (CutAt h₀ L m ⟨h, g, d, tk, os⟩ (FoundJ lsn rest r n)) E ⟨h, g, d, tk, os⟩)
    (done : ∀ v us nu h tk, FoundV r v → us.length = n → Fr h₀ L h m → News h₀ L h ((lsn, W.listOf (List.toArray us) nu) :: rest) → Q v ⟨h, g, d, tk, os⟩) : wpAny M A t Q E ⟨h, g, d, tk, os⟩ := by
  refine cut F (FoundJ lsn rest r n) (fun F => walk F N) ?_
  rintro v h tk nx F' N' ⟨us, nu, hv, hl, rfl⟩
  exact done v us nu h tk hv hl F' N'
theorem cut_ask (p : Option Bts) (F : Fr h₀ L h m) (N : News h₀ L h ((lsn, W.listOf (List.toArray us) nu) :: rest))
    (walk : Fr h₀ L h m → News h₀ L h ((lsn, W.listOf (List.toArray us) nu) :: rest) → wpAny M A t (CutAt h₀ L m ⟨h, g, d, tk, os⟩ (AskJ lsn rest p us)) E ⟨h, g, d, tk, os⟩)
    (done : ∀ v u nu h tk, PieceIn v p → Fr h₀ L h m → News h₀ L h ((lsn, W.listOf (List.toArray (us ++ [u])) nu) :: rest) → Q v ⟨h, g, d, tk, os⟩) : wpAny M A t Q E ⟨h, g, d, tk, os⟩ := by
  refine cut F (AskJ lsn rest p us) (fun F => walk F N) ?_
  rintro v h tk nx F' N' ⟨u, nu, hv, rfl⟩
  exact done v u nu h tk hv F' N'
end
/-- the seen askings -/
def Seen (us : List Value) (k : Nat) : Prop := us.length = k
section
variable {prog : Program} {w : World} {A : Around} {E : Value → Shared → Prop} {s : Shared} {h₀ : Heap} {L ls : Addr} {news : List (Addr × Obj)} {us : List Value} {k nn : Nat} {Q : Value → Shared → Prop}
theorem len_seen (N : News h₀ L s.heap news) (hm : (ls, W.listOf (List.toArray us) nn) ∈ news) (hp : Seen us k) (hfit : k ≤ 1000)
    (h : Q (.int (k : Int) (s.toks + 1)) { s with toks := s.toks + 1 + 1 }) : wpAny (model prog w) A (call (.builtin "len") [.ref ls]) Q E s := by
  have hl : s.heap.IsList ls (List.toArray us) := ⟨_, (N _ hm).1, rfl, nn, rfl⟩
  have e : (List.toArray us).size = k := by rw [List.size_toArray]; exact hp
  exact len_list hl (by rw [e]; omega) (by rw [e]; exact h)
end

theorem Run.bound {p : Nat → Option Bts} {most : Int} {f : Bts} {k : Nat} {r : Res} {n : Nat} (R : Run p most f k r n) : k ≤ f.size → (f.size : Int) ≤ most → (n : Int) ≤ most + 1 := by
  induction R with
  | nothing _ => intro h1 h2; omega
  | done _ _ => intro h1 h2; omega
  | long _ _ _ => intro h1 h2; omega
  | more _ h2 h3 _ ih =>
    intro h4 h5
    refine ih ?_ h3
    rw [Array.size_append]
    omega
end Mine

section
open PySem.Calls PySem.Builtin
set_option maxRecDepth 100000
namespace Mine
theorem slot_join : Slot "bytes" "join" "bytes.join" :=
  .of (owner := "bytes") (n := "join") (by rw [typeLookup_type, builtinLookup_eq_fast]; kernel_rfl) (by decide +kernel) (by decide +kernel) (by decide +kernel)
    (by first | exact .inl (by decide +kernel) | exact .inr (by decide +kernel)) (by rw [isSubtype_type]; kernel_rfl)
theorem type_join : typeOf (.builtin "bytes.join") = pure (.type "method_descriptor") := by show builtinType _ = _; rw [builtinType_eq_fast]; kernel_rfl
theorem entry_join : entryFor table "bytes.join" = some Builtin.«bytes.join» := entryFor_of_tree (by kernel_rfl)
theorem args_join (a b : Value) : argsOk "bytes.join" ⟨[a, b], []⟩ := by
  unfold argsOk; rw [signature?_of (id := "bytes.join") (n := ['n', 'i', 'o', 'j']) (o := ['s', 'e', 't', 'y', 'b']) (by kernel_rfl) FB.owner_bytes]; kernel_rfl
def BytesAre (vs : List Value) (bs : List Bts) : Prop := vs.length = bs.length ∧ ∀ (i : Nat) (v : Value), vs[i]? = some v → ∃ b t, bs[i]? = some b ∧ v = .bytes b t
theorem BytesAre.get {vs : List Value} {bs : List Bts} (h : BytesAre vs bs) {i : Nat} (hi : i < vs.length) : ∃ b t, bs[i]? = some b ∧ vs[i]? = some (.bytes b t) := by
  obtain ⟨b, t, h1, h2⟩ := h.2 i _ (List.getElem?_eq_getElem hi)
  exact ⟨b, t, h1, by rw [List.getElem?_eq_getElem hi, h2]⟩
def cat (bs : List Bts) : Bts := bs.foldl (· ++ ·) #[]
theorem cat_snoc (bs : List Bts) (b : Bts) : cat (bs ++ [b]) = cat bs ++ b := by simp [cat]
theorem take_buffer {id : String} {b : Bts} {t : Tok} {fl : Int} : Bytes.takeBuffer? id (.bytes b t) fl = pure (some (b, none)) := by
  unfold Bytes.takeBuffer?
  rw [KBy.special_eq KBy.look_buffer, KBy.own_buffer]
  simp only [pure_bind, Bool.not_true, Bool.false_eq_true, if_false]
  kernel_rfl
theorem take_quiet {id : String} {b : Bts} {t : Tok} {fl : Int} : Bytes.takeBufferQuiet? id (.bytes b t) fl = pure (some (b, none)) := by
  unfold Bytes.takeBufferQuiet?
  rw [take_buffer]
  rfl
theorem joinLetGo_wp {M : Model} {A : Around} {E : Value → Shared → Prop} {s : Shared} {Q : Unit → Shared → Prop} (h : Q () s) : ∀ (vs : List Value) (keep : List Value), wpAny M A (Bytes.joinLetGo (vs.map fun v => (v, none)) keep) Q E s
  | [], keep => wpAny_pure h
  | v :: r, keep => by
    show wpAny M A (Bytes.joinLetGo ((v, none) :: (r.map fun v => (v, none))) keep) Q E s
    unfold Bytes.joinLetGo
    dsimp only
    exact wpAny_bind (wpAny_letGo (joinLetGo_wp h r keep))
theorem joined_acc : ∀ (bs : List Bts) (i : Nat) (acc : Bts), ((bs.zipIdx i).foldl (fun (out : Bts) (q : Bts × Nat) => (if q.2 > 0 then out ++ #[] else out) ++ q.1) acc) = bs.foldl (· ++ ·) acc
  | [], _, _ => rfl
  | b :: r, i, acc => by
    rw [List.zipIdx_cons, List.foldl_cons, List.foldl_cons, joined_acc r]
    simp
theorem joined_cat (bs : List Bts) : Bytes.joined #[] bs = cat bs := joined_acc bs 0 #[]
theorem cat_acc : ∀ (bs : List Bts) (acc : Bts), (bs.foldl (· ++ ·) acc).size = acc.size + (bs.map Array.size).sum
  | [], acc => by simp
  | b :: r, acc => by
    rw [List.foldl_cons, cat_acc r, Array.size_append, List.map_cons, List.sum_cons]
    omega
theorem fold_acc : ∀ (bs : List Bts) (n : Nat), bs.foldl (fun a b => a + b.size) n = n + (bs.map Array.size).sum
  | [], n => by simp
  | b :: r, n => by
    rw [List.foldl_cons, fold_acc r, List.map_cons, List.sum_cons]
    omega
theorem fold_cat (bs : List Bts) : (List.toArray bs).foldl (fun a b => a + b.size) 0 = (cat bs).size := by
  rw [List.foldl_toArray', fold_acc, cat, cat_acc]
  · simp
  · simp
theorem match_one {α : Type _} (x : Value) (f : Value → α) (g : Array Value → α) : Bytes.joinM.match_1 (fun _ => α) #[x] f g = f x := by rfl
theorem match_more {α : Type _} (xs : Array Value) (h : xs.size ≠ 1) (f : Value → α) (g : Array Value → α) : Bytes.joinM.match_1 (fun _ => α) xs f g = g xs := by
  unfold Bytes.joinM.match_1
  simp [h]
theorem join_wp {prog : Program} {w : World} {A : Around} {E : Value → Shared → Prop} {s : Shared} {D : Addr} {bvs : List Value} {bs : List Bts} {n : Nat} {t : Tok} {Q : Value → Shared → Prop}
    (hl : s.heap.get? D = some (W.listOf (List.toArray bvs) n)) (hb : BytesAre bvs bs) (hz : (cat bs).size ≤ 1000000) (h : ∀ t' k, Q (.bytes (cat bs) t') { s with toks := k }) :
    wpAny (model prog w) A (Bytes.joinM .bytes ⟨[.bytes #[] t, .ref D], []⟩) (fun fin s' => ∃ v, fin = .done (.ret v) ∧ Q v s') E s := by
  have hT : s.TypeIs (.ref D) "list" := ⟨_, hl, rfl⟩
  obtain ⟨items, hit⟩ : ∃ items : Array Value, items = List.toArray bvs := ⟨_, rfl⟩
  rw [← hit] at hl
  unfold Bytes.joinM
  refine wpAny_bind (wpAny_of_eq (a := (.bytes #[] t, .ref D)) rfl ?_)
  dsimp only
  rw [if_pos (show (Bytes.Kind.bytes == Bytes.Kind.bytes) = true by decide)]
  refine wpAny_bind (m := Bytes.joinItems (.ref D)) ?_
  unfold Bytes.joinItems
  refine wpAny_bind (wpAny_typeOf hT ?_)
  rw [if_pos (by decide)]
  refine wpAny_pure ?_
  refine wpAny_bind (wpAny_seqItems hl rfl ?_)
  dsimp only
  rw [if_pos (show (Bytes.Kind.bytes == Bytes.Kind.bytes) = true by decide)]
  by_cases hone : items.size = 1
  · obtain ⟨x, rfl⟩ : ∃ x, bvs = [x] := by
      rw [hit, List.size_toArray] at hone
      match bvs, hone with
      | [x], _ => exact ⟨x, rfl⟩
    subst hit
    rw [match_one]
    obtain ⟨b, tb, h1, h2⟩ := hb.get (i := 0) (by simp)
    obtain rfl : x = .bytes b tb := by simpa using h2
    obtain rfl : bs = [b] := by
      match bs, hb.1, h1 with
      | [c], _, h1 => simp at h1; rw [h1]
    refine wpAny_bind (wpAny_typeOf (typeIs_bytes s b tb) ?_)
    rw [if_pos (by decide)]
    refine wpAny_bind (wpAny_rule ?_)
    refine wpAny_pure ⟨_, rfl, ?_⟩
    have e : cat [b] = b := by simp [cat]
    rw [e] at h
    exact h tb s.toks
  · rw [match_more _ hone]
    refine wpAny_bind ?_
    rw [Std.Legacy.Range.forIn_eq_forIn_range']
    simp only [Std.Legacy.Range.size, Nat.sub_zero, Nat.add_sub_cancel, Nat.div_one]
    refine wpAny_forIn_list _
      (fun rest st s' => s' = s ∧ ∃ i, rest = List.range' i (items.size - i) ∧ i ≤ items.size ∧ st = (List.toArray (bs.take i), (bvs.take i).map fun v => (v, none)))
      _ ?_ ?_ _ _ ⟨rfl, 0, by simp, Nat.zero_le _, by simp⟩
    · rintro x rest st s' ⟨rfl, i, hr, hi, rfl⟩
      have hlt : i < items.size := by
        rcases Nat.lt_or_ge i items.size with h | h
        · exact h
        · rw [Nat.sub_eq_zero_of_le h] at hr; simp at hr
      obtain ⟨rfl, hrest⟩ : x = i ∧ rest = List.range' (i + 1) (items.size - (i + 1)) := by
        have e : items.size - i = (items.size - (i + 1)) + 1 := by omega
        rw [e, List.range'_succ] at hr
        injection hr with h1 h2
        exact ⟨h1, h2⟩
      obtain ⟨b, tb, h1, h2⟩ := hb.get (i := x) (by rw [hit, List.size_toArray] at hlt; exact hlt)
      have hx : items.getD x Value.none = .bytes b tb := by
        rw [hit, Array.getD_eq_getD_getElem?, List.getElem?_toArray, h2]
        rfl
      refine wpAny_bind (wpAny_seqItems hl rfl ?_)
      dsimp only
      rw [hx]
      have hany : ((bvs.take x).map fun v => (v, (none : Option Value))).any (fun q => q.1.onHeap) = false := by
        rw [List.any_eq_false]
        rintro ⟨v, o⟩ hv
        obtain ⟨u, hu, he⟩ := List.mem_map.mp hv
        cases he
        obtain ⟨j, hj, hju⟩ := List.getElem_of_mem hu
        rw [List.getElem_take] at hju
        obtain ⟨c, tc, _, e⟩ := hb.2 j _ (List.getElem?_eq_getElem (by rw [List.length_take] at hj; omega))
        rw [hju] at e
        rw [e]
        exact Bool.false_ne_true
      rw [if_neg (by rw [hany]; decide)]
      refine wpAny_bind (wpAny_holding (wpAny_of_eq take_quiet ?_))
      dsimp only
      refine wpAny_bind (wpAny_seqItems hl rfl ?_)
      dsimp only
      rw [if_neg (by simp)]
      refine wpAny_pure ⟨rfl, x + 1, hrest, hlt, ?_⟩
      rw [List.take_add_one, List.take_add_one, h1, h2]
      simp
    · rintro st s' ⟨rfl, i, hr, hi, rfl⟩
      have hin : i = items.size := by
        rcases Nat.lt_or_ge i items.size with h | h
        · have e : items.size - i = (items.size - (i + 1)) + 1 := by omega
          rw [e, List.range'_succ] at hr
          cases hr
        · omega
      have hlen : items.size = bvs.length := by rw [hit, List.size_toArray]
      have e1 : bs.take i = bs := List.take_of_length_le (by rw [← hb.1]; omega)
      have e2 : bvs.take i = bvs := List.take_of_length_le (by omega)
      rw [e1, e2]
      refine wpAny_bind (wpAny_of_eq (a := #[]) rfl ?_)
      dsimp only
      have hfold : (List.toArray bs).foldl (fun a b => a + b.size) ((#[] : Bts).size * ((List.toArray bs).size - 1)) = (cat bs).size := by
        rw [show (#[] : Bts).size = 0 from rfl, Nat.zero_mul]
        exact fold_cat bs
      rw [if_neg (show ¬ (Bytes.tooLong ((List.toArray bs).foldl (fun a b => a + b.size) ((#[] : Bts).size * ((List.toArray bs).size - 1))) = true) by
        rw [hfold, KBy.tooLong_not (by omega)]
        exact Bool.false_ne_true)]
      rw [joined_cat]
      show wpAny _ _ (mkBytes (cat bs) >>= fun result => _) _ _ _
      refine wpAny_bind (wpAny_mkBytes ?_ (by rw [sizeLine_eq]; omega))
      refine wpAny_bind (wpAny_holding (wpAny_point ?_))
      refine wpAny_bind (joinLetGo_wp ?_ _ _)
      exact wpAny_pure ⟨_, rfl, h _ _⟩
theorem call_join {prog : Program} {w : World} {A : Around} {E : Value → Shared → Prop} {s : Shared} {D : Addr} {bvs : List Value} {bs : List Bts} {n : Nat} {t : Tok} {Q : Value → Shared → Prop} {h₀ : Heap} {L : Addr} {news : List (Addr × Obj)}
    (N : News h₀ L s.heap news) (hm : (D, W.listOf (List.toArray bvs) n) ∈ news) (hb : BytesAre bvs bs) (hz : (cat bs).size ≤ 1000000) (h : ∀ t' k, Q (.bytes (cat bs) t') { s with toks := k }) :
    wpAny (model prog w) A (call (.builtin "bytes.join") [.bytes #[] t, .ref D]) Q E s :=
  wpAny_call_entry slot_join (typeIs_bytes s #[] t) entry_join (join_wp (N _ hm).1 hb hz h) (args_join _ _)
theorem get_join {M : Model} {A : Around} {E : Value → Shared → Prop} {s : Shared} {b : Bts} {t : Tok} {pl : Sem Bool} {Q : Value × List Value → Shared → Prop} (h : Q (.builtin "bytes.join", [.bytes b t]) s) :
    wpAny M A (getMethod (.bytes b t) "join" pl) Q E s := by
  with_reducible exact KBd.method_of (.bytes b t) (typeIs_bytes _ _ _) slot_join type_join KBd.noRef h

theorem BytesAre.nil : BytesAre [] [] := ⟨rfl, fun i v h => by simp at h⟩
theorem BytesAre.snoc {vs : List Value} {bs : List Bts} {b : Bts} {t : Tok} (h : BytesAre vs bs) : BytesAre (vs ++ [.bytes b t]) (bs ++ [b]) := by
  refine ⟨by rw [List.length_append, List.length_append, h.1]; rfl, fun i u hu => ?_⟩
  rcases Nat.lt_trichotomy i vs.length with hi | hi | hi
  · rw [List.getElem?_append_left hi] at hu
    obtain ⟨c, tc, hc, e⟩ := h.2 i u hu
    exact ⟨c, tc, by rw [List.getElem?_append_left (h.1 ▸ hi)]; exact hc, e⟩
  · subst hi
    simp at hu
    exact ⟨b, t, by rw [h.1]; simp, hu.symm⟩
  · rw [List.getElem?_eq_none (by simp; omega)] at hu
    cases hu
/-- what holds between the turns of put_together -/
def PutInv (G : Heap) (L : Addr) (g : Array GenState) (d : Drawn) (os : OsState) (fa lsn Dp : Addr) (rest : List (Addr × Obj)) (tm : Tok) (p : Nat → Option Bts) (most : Int) (r : Res) (n : Nat) (c : Bts × Nat) (s : Shared) : Prop :=
  ∃ h tk m bvs bs nb us nu tn, s = ⟨h, g, d, tk, os⟩ ∧ Fr G L h m ∧ News G L h ((lsn, W.listOf (List.toArray us) nu) :: (Dp, W.listOf (List.toArray bvs) nb) :: rest) ∧
    (∀ q ∈ [(Str.ofString "pieces", Value.ref Dp), (Str.ofString "many", Value.int (c.1.size : Int) tn), (Str.ofString "ask", Value.ref fa), (Str.ofString "most", Value.int most tm)], m q.1 = some q.2) ∧
    BytesAre bvs bs ∧ cat bs = c.1 ∧ bs.length ≤ c.2 ∧ us.length = c.2 ∧ (c.1.size : Int) ≤ most ∧ c.2 ≤ c.1.size ∧ Run p most c.1 c.2 r n
theorem put_next {G h : Heap} {L fa lsn Dp : Addr} {g : Array GenState} {d : Drawn} {os : OsState} {rest : List (Addr × Obj)} {tm tn tb : Tok} {p : Nat → Option Bts} {most : Int} {r : Res} {n k tk nb nu : Nat} {f b : Bts} {m : Str → Option Value} {Q : Flow → Shared → Prop} {bvs us : List Value} {bs : List Bts} {u : Value}
    (F : Fr G L h m) (N : News G L h ((lsn, W.listOf (List.toArray (us ++ [u])) nu) :: (Dp, W.listOf (List.toArray (bvs ++ [.bytes b tb])) nb) :: rest))
    (hm : ∀ q ∈ [(Str.ofString "pieces", Value.ref Dp), (Str.ofString "many", Value.int ((f.size : Int) + (b.size : Int)) tn), (Str.ofString "ask", Value.ref fa), (Str.ofString "most", Value.int most tm)], m q.1 = some q.2)
    (hb : BytesAre bvs bs) (hc : cat bs = f) (hbl : bs.length ≤ k) (hus : us.length = k) (hkf : k ≤ f.size) (hv : p k = some b) (h0 : b.size ≠ 0) (hle : ¬ most < (f.size : Int) + (b.size : Int)) (hrun : Run p most f k r n) :
    WhlNext (PutInv G L g d os fa lsn Dp rest tm p most r n) (fun c => (most + 1 - (c.1.size : Int)).toNat) (f, k) Q .next ⟨h, g, d, tk, os⟩ := by
  have hs : (f ++ b).size = f.size + b.size := Array.size_append
  have e : (f.size : Int) + (b.size : Int) = ((f ++ b).size : Int) := by omega
  rw [e] at hm
  refine ⟨(f ++ b, k + 1), ?_, h, tk, m, _, bs ++ [b], nb, _, nu, tn, rfl, F, N, hm, hb.snoc, by rw [cat_snoc, hc], by simp; omega, by simp [hus], ?_, ?_, hrun.at_more hv h0 (by omega)⟩
  · show (most + 1 - ((f ++ b).size : Int)).toNat < (most + 1 - (f.size : Int)).toNat
    omega
  · show ((f ++ b).size : Int) ≤ most
    omega
  · show k + 1 ≤ (f ++ b).size
    omega
end Mine
end

section
open PySem.Calls PySem.Builtin
set_option maxRecDepth 100000
namespace Mine
theorem sub_str_bytes : isSubtype (.type "str") (.type "bytes") = pure false := by rw [isSubtype_type]; kernel_rfl
theorem bytes_eq_str (b : Bts) (t u : Tok) (x : Str) : Gives (Builtin.«bytes.__eq__» ⟨[.bytes b t, .str x u], []⟩) (.val (Value.notImplemented)) := by
  refine .of_wp fun M A E s Q hq => ?_
  refine wpAny_bind (wpAny_of_eq (a := (.bytes b t, [.str x u])) rfl ?_)
  dsimp only
  refine wpAny_bind (wpAny_isInstance (typeIs_str s x u) sub_str_bytes ?_)
  rw [if_pos (show (!false) = true from rfl)]
  refine wpAny_bind (wpAny_rule ?_)
  exact wpAny_pure ⟨_, rfl, hq⟩
theorem str_eq_bytes (b : Bts) (t u : Tok) (x : Str) : Gives (Builtin.«str.__eq__» ⟨[.str x u, .bytes b t], []⟩) (.val (Value.notImplemented)) :=
  .of_wp fun M A E s Q h => by obtain ⟨hp, g, d, tk, os⟩ := s; wp_walk; exact ⟨_, rfl, h⟩
theorem cmp_bytes_str {prog : Program} {w : World} {A : Around} {E : Value → Shared → Prop} {s : Shared} {b : Bts} {t u : Tok} {x : Str} {Q : Value → Shared → Prop} (h : Q (.bool false) s) :
    wpAny (model prog w) A (compareOp .Eq (.bytes b t) (.str x u)) Q E s := by
  show wpAny _ A (richCompare .Eq _ _) Q E s
  exact EqNone.wpAny_richCompare_eq_decline (k := false) (fun s' => typeIs_bytes s' b t) (fun s' => typeIs_str s' x u) (by decide) sub_str_bytes FB.slot_bytes_eq F.slot_str_eq_refl rfl
    (call_gives FB.slot_bytes_eq (typeIs_bytes s b t) FB.entry_bytes_eq (FB.args_bytes_eq_2 _ _) (bytes_eq_str b t u x)
      ⟨rfl, call_gives F.slot_str_eq_refl (typeIs_str s x u) F.entry_str_eq (F.args_str_eq_2 _ _) (str_eq_bytes b t u x) ⟨rfl, h⟩⟩)
end Mine
end

local macro_rules | `(tactic| k_allIn) => `(tactic| (intro p hp; k_ownIn))
local macro_rules | `(tactic| walk_at "call builtin:list.append") => `(tactic| (k_here; (with_reducible show wpAny _ _ (call (Value.builtin _) [Value.ref _, _]) _ _ _); k_dflt (refine' Mine.append_L ?k1 ?k2 ?k3 ?z ?_; (case k1 => k_asm); (case k2 => k_asm); (case k3 => k_upd); (case z => omega); k_whole); intro h' F' N'))
local macro_rules | `(tactic| walk_at "subscriptTail") => `(tactic| (k_here; (with_reducible show wpAny _ _ (subscriptTail _ (Expr.Slice _ _ none _) (Value.bytes _ _) (Value.ref _)) _ _ _); (with_reducible rename Fr _ _ _ _ => F'); (with_reducible rename News _ _ _ _ => N'); (refine KBc.slice_K (s := ⟨_, _, _, _, _⟩) F' N' (KBw.ints_list _) (by constructor) (by constructor) (by simp) ?_); clear F' N'; intro _ _ _ F' N' _))
local macro_rules | `(tactic| walk_at "call builtin:len") => `(tactic| (k_here; (with_reducible show wpAny _ _ (call (Value.builtin "len") [Value.ref _]) _ _ _); (rename Mine.Pieces _ _ => hPl'); k_dflt (refine' Mine.len_piece ?k1 ?k2 hPl' ?k4 ?_; (case k1 => k_asm); (case k2 => k_memK); (case k4 => omega); k_whole)))
local macro_rules | `(tactic| walk_at "subscriptTail") => `(tactic| (k_here; (with_reducible show wpAny _ _ (subscriptTail _ _ (Value.ref _) (Value.int _ _)) _ _ _); (rename Mine.Pieces _ _ => hPi'); k_dflt (refine' Mine.item_piece ?k1 ?k2 hPi' ?k3 ?k4 ?k6 ?_ ?k5; (case k1 => k_asm); (case k2 => k_memK); (case k3 => omega); (case k4 => omega); (case k6 => omega); (case k5 => with_unfolding_all rfl); k_whole); intro v' hv'))
local macro_rules | `(tactic| walk_at "call builtin:len") => `(tactic| (k_here; (with_reducible show wpAny _ _ (call (Value.builtin "len") [Value.bytes _ _]) _ _ _); (refine len_bytes (by first | omega | (simp only [Array.size_append]; omega)) ?_)))
local macro_rules | `(tactic| walk_at "binaryOp Add bytes bytes") => `(tactic| (k_here; (with_reducible show wpAny _ _ (binaryOp Operator.Add (Value.bytes _ _) (Value.bytes _ _)) _ _ _); (refine KBy.add_bytes (by omega) ?_); intro _ _))
local macro_rules | `(tactic| walk_at "WhlNext") => `(tactic| (show Mine.WhlNext _ _ _ _ (Flow.ret _) _; dsimp only [Mine.WhlNext]))
local macro_rules | `(tactic| walk_at "call builtin:len") => `(tactic| (k_here; (with_reducible show wpAny _ _ (call (Value.builtin "len") [Value.ref _]) _ _ _); (rename Mine.Seen _ _ => hSn'); k_dflt (refine' Mine.len_seen ?k1 ?k2 hSn' ?k4 ?_; (case k1 => k_asm); (case k2 => k_memK); (case k4 => omega); k_whole)))
local macro_rules | `(tactic| walk_at "getMethod bytes") => `(tactic| (k_here; (with_reducible refine Mine.get_join ?_)))
local macro_rules | `(tactic| walk_at "call builtin:bytes.join") => `(tactic| (k_here; k_dflt (refine' Mine.call_join ?k1 ?k2 ?k3 ?k4 ?_; (case k1 => k_asm); (case k2 => k_memK); (case k3 => assumption); (case k4 => assumption); k_whole); intro _ _))
local macro_rules | `(tactic| walk_at "compareOp Eq bytes str") => `(tactic| (k_here; (with_reducible refine Mine.cmp_bytes_str ?_)))

set_option maxRecDepth 100000 in
set_option maxHeartbeats 100000000 in
theorem PySem.Challenge.cw_pq0673_01_holds : PySem.Challenge.rw_pq0673_01.Holds := by
  w_on
  o_law
  k_head
  (case hw => w_witness2)
  k_go0
  all_goals try k_fold
  iterate 60 (first | (with_reducible show wpAny _ _ (PySem.call (Value.ref _) _) _ _ _) | walk1)
  rename_i sc scv _ _ _ _ _ _ _ hlen _ _ _ _ _ _ ol _ _ hol X0 X T K l0 D0 ws _ hI hC hL l1 lh _ l2 lsn _ l3 lp _ l4 Dt _ l5 _ _ _ osn dsn _ op F N dp
  have N1 := Mine.news_sub (l' := [(lh, W.listOf #[Value.ref D0, Value.int 0 _] 0), (D0, W.listOf ws.toArray 0), (lsn, W.listOf #[] 0), (lp, W.listOf #[] 0), (_, osn), (_, op), (_, ol), (37, tabObj #[])]) N (by k_allIn)
  clear N
  have l6 : @LT.lt Nat _ 37 D0 ∧ @LT.lt Nat _ D0 lh ∧ @LT.lt Nat _ lh lsn ∧ @LT.lt Nat _ lsn lp := by omega
  have F1 := Mine.fr_cast (m' := fun y => if y = Str.ofString "hand" then some (Value.ref lh) else if y = Str.ofString "script" then some (Value.ref sc) else none) F (by with_unfolding_all rfl)
  clear F
  rename Fr _ _ _ _ => F
  refine Mine.cut_dealt 31 F N1 ?_ ?_
  · clear F N1
    intro F N
    repeat' (first | (k_unfold; (try dsimp only)) | walk1 | (dsimp only; walk1) )
    all_goals exact Mine.CutAt.intro (by assumption) (by assumption) (by k_allIn) (Mine.DealtJ.intro (by decide))
  clear F N1
  intro most tm h tk tt hm0 hm1 F N
  iterate 60 (first | (with_reducible show wpAny _ _ (PySem.call (Value.ref _) _) _ _ _) | walk1)
  rename Fr _ _ _ _ => F
  refine Mine.cut_dealt 7 F (by with_reducible assumption) ?_ ?_
  · clear F
    rename News _ _ _ _ => N
    clear N
    intro F N
    repeat' (first | (k_unfold; (try dsimp only)) | walk1 | (dsimp only; walk1) )
    all_goals exact Mine.CutAt.intro (by assumption) (by assumption) (by k_allIn) (Mine.DealtJ.intro (by decide))
  clear F
  intro turns tn h tk tt hn0 hn1 F N
  iterate 60 (first | (with_reducible show wpAny _ _ (PySem.call (Value.type _) _) _ _ _) | walk1)
  rename Fr _ _ _ _ => F
  rename News _ _ _ _ => N
  with_unfolding_all refine range1_rows F N ?_
  clear F N
  intro h tk t1 u1 v1 R F N _
  have N1 := Mine.news_sub (l' := [(lh, Mine.handObj D0 2 _), (lp, W.listOf (List.toArray []) 0), (D0, W.listOf ws.toArray 0), (lsn, W.listOf #[] 0), (_, osn), (_, op), (_, ol), (37, tabObj #[])]) N (by k_allIn)
  clear N
  refine Mine.turns_loop (y := Str.ofString "form") (by rfl) rfl R hn0 hn1 F N1 ?_ ?_
  · clear F N1
    intro i t vs ps u tt nn h tk own hi hl hp hoff F N
    simp only [List.cons_append, List.nil_append, List.map_cons, List.map_nil] at N hoff
    iterate 60 (first | (with_reducible show wpAny _ _ (PySem.call (Value.ref _) _) _ _ _) | walk1)
    rename Fr _ _ _ _ => F
    refine Mine.cut_dealt 9 F (by with_reducible assumption) ?_ ?_
    · clear F
      rename News _ _ _ _ => N
      clear N
      intro F N
      repeat' (first | (k_unfold; (try dsimp only)) | walk1 | (dsimp only; walk1) )
      all_goals exact Mine.CutAt.intro (by assumption) (by assumption) (by k_allIn) (Mine.DealtJ.intro (by decide))
    clear F
    intro form tf h tk tt hf0 hf1 F N
    have hvl := hp.le (n := 7) (by omega)
    repeat' (first | (k_unfold; (try dsimp only)) | walk1 | (dsimp only; walk1) )
    all_goals (rename Fr _ _ _ _ => F2; rename News _ _ _ _ => N2)
    · exact Mine.turn_end F2 N2 hp hl .none hoff (by k_same2)
    · exact Mine.turn_end F2 N2 hp hl (.bytes _ _ (Nat.le_trans (KBc.size_picked_le _ _ _) (by decide))) hoff (by k_same2)
    · exact Mine.turn_end F2 N2 hp hl (.bytes _ _ (Nat.le_trans (KBc.size_picked_le _ _ _) (by decide))) hoff (by k_same2)
  · clear F N1
    intro t vs ps u u' tt nn h tk ht0 ht1 hl hp F N
    dsimp only
    iterate 60 (first | (with_reducible show wpAny _ _ (eval (Expr.Subscript _ _ _) _) _ _ _) | walk1)
    refine Mine.cut_last F N ?_ ?_
    · clear F N
      intro F N
      iterate 60 (first | (with_reducible show wpAny _ _ (PySem.call (Value.ref _) _) _ _ _) | walk1)
      rename Fr _ _ _ _ => F
      rename News _ _ _ _ => N
      refine Mine.cut_dealt 4 F (Mine.news_swap N) ?_ ?_
      · clear F N
        intro F N
        repeat' (first | (k_unfold; (try dsimp only)) | walk1 | (dsimp only; walk1) )
        all_goals exact Mine.CutAt.intro (by assumption) (by assumption) (by k_allIn) (Mine.DealtJ.intro (by decide))
      clear F N
      intro r tr h tk tt hr0 hr1 F N
      repeat' (first | (k_unfold; (try dsimp only)) | walk1 | (dsimp only; walk1) )
      all_goals exact Mine.CutAt.intro F N (by k_allIn) (Mine.LastJ.intro (by first | exact Mine.PieceIn.none | exact Mine.PieceIn.bytes _ _ (by decide)))
    clear F N
    intro vl pl h tk tt hpl F N
    iterate 60 (first | (with_reducible show wpAny _ _ (PySem.call (Value.ref _) _) _ _ _) | walk1)
    rename_i ha ola dla fa ca oca vsa ta cta dca hb tkb d1 d2 la lb hc F N
    refine Mine.cut_due (Mine.askAt ps pl) most F N ?_ ?_
    · clear F N
      intro F N
      walk1
      iterate 60 (first | (with_reducible show wpAny _ _ (exec (Stmt.While _ _ _ _) _) _ _ _) | walk1)
      rename Fr _ _ _ _ => F
      rename News _ _ _ _ => N
      have N := Mine.news_tail N
      refine' Mine.whl_exec (Mine.DueInv _ _ _ _ _ _ lp vl tm (Mine.askAt ps pl) most) (fun c => (most + 1 - (c.1.size : Int)).toNat) (i := (#[], 0)) ?hE ⟨_, _, _, _, _, rfl, F, N, ?hm, hm0, Nat.le_refl _, fun _ _ h => h⟩ ?turn
      case hE => first | passes_own | with_unfolding_all passes_own
      case hm => (repeat' (first | exact List.forall_mem_nil _ | (refine List.forall_mem_cons.mpr ⟨by with_unfolding_all rfl, ?_⟩)))
      clear F N
      rintro ⟨f, k⟩ s' ⟨h, tk, m, tf, ta, rfl, F, N, hk, hf, hkf, hrun⟩
      have F := Mine.fr_known _ F hk
      dsimp only at F hf hkf hrun
      simp only [kstB] at F
      clear hk
      iterate 60 (first | (with_reducible show wpAny _ _ (eval (Expr.IfExp _ _ _ _) _) _ _ _) | walk1)
      refine Mine.cut_same (fun v => Mine.PieceIn v (Mine.askAt ps pl k)) F N ?_ ?_
      · clear F N
        intro F N
        repeat' (first | (k_unfold; (try dsimp only)) | walk1 | (dsimp only; walk1) )
        · exact Mine.CutAt.intro (by assumption) (by assumption) (by k_allIn) ⟨Mine.askAt_some (by assumption) (by assumption), rfl⟩
        · exact Mine.CutAt.intro (by assumption) (by assumption) (by k_allIn) ⟨Mine.askAt_last (by assumption) hpl, rfl⟩
      clear F N
      rintro v h tk (⟨rfl, hv⟩ | ⟨b, tb, rfl, hv, hb⟩) F N
      · repeat' (first | (k_unfold; (try dsimp only)) | walk1 | (dsimp only; walk1) )
        exact Mine.CutAt.intro (by assumption) (by assumption) (by k_allIn) (Mine.DueJ.intro (hrun _ _ (.nothing hv)) ⟨_, rfl⟩)
      · repeat' (first | (k_unfold; (try dsimp only)) | walk1 | (dsimp only; walk1) )
        · exact Mine.CutAt.intro (by assumption) (by assumption) (by k_allIn) (Mine.DueJ.intro (hrun _ _ (.done hv (Mine.size_none (by assumption)))) ⟨_, rfl⟩)
        · exact Mine.CutAt.intro (by assumption) (by assumption) (by k_allIn) (Mine.DueJ.intro (hrun _ _ (.long hv (Mine.size_some (by assumption)) (by assumption))) ⟨_, rfl⟩)
        · exact Mine.due_next (by assumption) (by assumption) (by (repeat' (first | exact List.forall_mem_nil _ | (refine List.forall_mem_cons.mpr ⟨by with_unfolding_all rfl, ?_⟩)))) hv (Mine.size_some (by assumption)) (by assumption) hkf hrun
    clear F N
    intro a tt n r dv h tk hrun hdv F N
    iterate 60 (first | (with_reducible show wpAny _ _ (PySem.call (Value.ref _) _) _ _ _) | walk1)
    rename Fr _ _ _ _ => F
    rename News _ _ _ _ => N
    have N1 := Mine.news_sub (l' := (lsn, W.listOf (List.toArray []) 0) :: [(fa, _), (ca, _), (lh, _), (lp, W.listOf (List.toArray vs) _), (D0, _), (_, osn), (_, op), (_, ola), (37, _)]) N (by k_allIn)
    clear N
    refine Mine.cut_found r n F N1 ?_ ?_
    · clear F N1
      intro F N
      walk1
      iterate 60 (first | (with_reducible show wpAny _ _ (exec (Stmt.While _ _ _ _) _) _ _ _) | walk1)
      rename_i Dp _ lDp Dq _ lDq _ _ _ F N
      have N := Mine.news_swap (Mine.news_tail N)
      refine' Mine.whl_exec (Mine.PutInv _ _ _ _ _ fa lsn Dp _ tm (Mine.askAt ps pl) most r n) (fun c => (most + 1 - (c.1.size : Int)).toNat) (i := (#[], 0)) ?hE2 ⟨_, _, _, _, _, _, _, _, _, rfl, F, N, ?hm2, Mine.BytesAre.nil, rfl, Nat.le_refl _, rfl, hm0, Nat.le_refl _, hrun⟩ ?turn2
      case hE2 => first | passes_own | with_unfolding_all passes_own
      case hm2 => (repeat' (first | exact List.forall_mem_nil _ | (refine List.forall_mem_cons.mpr ⟨by with_unfolding_all rfl, ?_⟩)))
      clear F N
      rintro ⟨f, k⟩ s' ⟨h, tk, m, bvs, bs, nb, us, nu, tn, rfl, F, N, hk, hb, hcat, hbl, hus, hf, hkf, hgo⟩
      have F := Mine.fr_known _ F hk
      dsimp only at F hcat hbl hus hf hkf hgo
      simp only [kstB] at F
      clear hk
      have hseen : Mine.Seen us k := hus
      have hcz : (Mine.cat bs).size ≤ 1000000 := by rw [hcat]; omega
      have hbv : bvs.length ≤ 1000 := by rw [hb.1]; omega
      iterate 60 (first | (with_reducible show wpAny _ _ (PySem.call (Value.ref _) _) _ _ _) | walk1)
      refine Mine.cut_ask (Mine.askAt ps pl k) F N ?_ ?_
      · clear F N
        intro F N
        repeat' (first | (k_unfold; (try dsimp only)) | walk1 | (dsimp only; walk1) )
        · exact Mine.CutAt.intro (by assumption) (by assumption) (by k_allIn) (Mine.AskJ.intro (Mine.askAt_some (by assumption) (by assumption)))
        · exact Mine.CutAt.intro (by assumption) (by assumption) (by k_allIn) (Mine.AskJ.intro (Mine.askAt_last (by assumption) hpl))
      clear F N
      rintro v u nu h tk (⟨rfl, hv⟩ | ⟨b, tb, rfl, hv, hbs⟩) F N
      · repeat' (first | (k_unfold; (try dsimp only)) | walk1 | (dsimp only; walk1) )
        have e := hgo.at_none hv
        exact Mine.CutAt.intro (by assumption) (by assumption) (by k_allIn) (Mine.FoundJ.intro (by rw [e.1]; exact rfl) (by rw [e.2, List.length_append, hus]; rfl))
      · repeat' (first | (k_unfold; (try dsimp only)) | walk1 | (dsimp only; walk1) )
        · have e := hgo.at_done hv (by omega)
          exact Mine.CutAt.intro (by assumption) (by assumption) (by k_allIn) (Mine.FoundJ.intro (by rw [e.1, hcat]; exact ⟨_, rfl⟩) (by rw [e.2, List.length_append, hus]; rfl))
        · have e := hgo.at_long hv (by omega) (by rw [Array.size_append]; omega)
          exact Mine.CutAt.intro (by assumption) (by assumption) (by k_allIn) (Mine.FoundJ.intro (by rw [e.1]; exact ⟨_, rfl⟩) (by rw [e.2, List.length_append, hus]; rfl))
        · exact Mine.put_next (by assumption) (by assumption) (by (repeat' (first | exact List.forall_mem_nil _ | (refine List.forall_mem_cons.mpr ⟨by with_unfolding_all rfl, ?_⟩)))) hb hcat hbl hus hkf hv (by omega) (by assumption) hgo
    clear F N1
    intro fv us nu h tk hfv hus F N
    have hseen : Mine.Seen us n := hus
    have hnb := hrun.bound (Nat.le_refl _) hm0
    rcases r with _ | _ | b
    · obtain ⟨td, rfl⟩ := hdv
      have hfv : fv = .none := hfv
      subst hfv
      repeat' (first | (k_unfold; (try dsimp only)) | (k_end; kc_close) | walk1 | (dsimp only; walk1) )
    · obtain ⟨td, rfl⟩ := hdv
      obtain ⟨tf, rfl⟩ := hfv
      repeat' (first | (k_unfold; (try dsimp only)) | (k_end; kc_close) | walk1 | (dsimp only; walk1) )
    · obtain ⟨td, rfl⟩ := hdv
      obtain ⟨tf, rfl⟩ := hfv
      repeat' (first | (k_unfold; (try dsimp only)) | (k_end; kc_close) | walk1 | (dsimp only; walk1) )
