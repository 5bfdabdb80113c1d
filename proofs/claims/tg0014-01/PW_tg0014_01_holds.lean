import PyProof.Rows.All
import Wide.All
import OpenK.AllK
import Wide.FinOn
import PySem.Challenge.RW_tg0014_01
open PySem PySem.W PySem.Spec PySem.Calls PyProof.Rows
set_option Elab.async false
set_option rowWalk.seconds 0
namespace Mine
set_option maxRecDepth 100000 in
set_option maxHeartbeats 8000000 in
open_top hd for PySem.Challenge.rw_tg0014_01

def Stop (P : Prop) : Prop := P
theorem Stop.out {P : Prop} (h : Stop P) : P := h
theorem Stop.mk {P : Prop} (h : P) : Stop P := h

/-- side conditions, proved once: each would weigh some 10 KB by omega -/
theorem le_step {a k : Int} (h : a ≤ k) : k = a ∨ a + 1 ≤ k := (Int.lt_or_eq_of_le h).elim (fun h => Or.inr h) fun h => Or.inl h.symm
theorem room0 {a n L : Nat} (h : a + n < L) : a < L := Nat.lt_of_le_of_lt (Nat.le_add_right a n) h
theorem room1 {a b n L : Nat} (h : a + n < L) (k : Nat.ble b n = true) : a + b < L := Nat.lt_of_le_of_lt (Nat.add_le_add_left (Nat.le_of_ble_eq_true k) a) h
theorem room2 {a b c n L : Nat} (h : a + n < L) (k : Nat.ble (b + c) n = true) : a + b + c < L := (Nat.add_assoc a b c).symm ▸ room1 h k
theorem lt_len {k r : Int} {n : Nat} (h : (n : Int) = r) (hk : k < r) : k < (n : Int) := h ▸ hk
theorem up36 {k r b : Int} (hr : r ≤ 36) (hk : k < r) (hb : (36 : Int) ≤ b) : k < b := Int.lt_of_lt_of_le (Int.lt_of_lt_of_le hk hr) hb
theorem lt63 {k r : Int} (hr : r ≤ 36) (hk : k < r) : k < 2 ^ 63 := up36 hr hk (by decide)
theorem le6 {k r : Int} (hr : r ≤ 36) (hk : k < r) : k ≤ 1000000 := Int.le_of_lt (up36 hr hk (by decide))
theorem r63 {r : Int} (hr : r ≤ 36) : r < 2 ^ 63 := Int.lt_of_le_of_lt hr (by decide)
theorem r6 {r : Int} (hr : r ≤ 36) : r ≤ 1000000 := Int.le_trans hr (by decide)
theorem lo63 {r : Int} (hr : 9 ≤ r) : -2 ^ 63 ≤ r := Int.le_trans (by decide) hr
theorem r0 {r : Int} (hr : 9 ≤ r) : 0 ≤ r := Int.le_trans (by decide) hr
theorem r256 {r : Int} (hr : r ≤ 36) : (0 + 1) * r.toNat ≤ 256 := by
  rw [Nat.zero_add, Nat.one_mul]
  exact Nat.le_trans (Int.toNat_le.mpr hr) (by decide)
theorem f64 {r : Int} (h : 3 ≤ r ∧ r ≤ 6) : r < 2 ^ 64 := Int.lt_of_le_of_lt h.2 (by decide)
theorem f64' {r : Int} (h : 3 ≤ r ∧ r ≤ 6) : -2 ^ 64 < r := Int.lt_of_lt_of_le (by decide) h.1
theorem f62' {r : Int} (h : 3 ≤ r ∧ r ≤ 6) : -2 ^ 62 ≤ r := Int.le_trans (by decide) h.1
theorem f6 {r : Int} (h : 3 ≤ r ∧ r ≤ 6) : r ≤ 1000000 := Int.le_trans h.2 (by decide)
theorem f01 {r : Int} (h : 3 ≤ r ∧ r ≤ 6) : 0 ≤ r - 1 := Int.sub_nonneg_of_le (Int.le_trans (by decide) h.1)
theorem in_hi {c : Prop} {k r : Int} (h : c → 0 ≤ k ∧ k < r) (hc : c) : k < r := (h hc).2
theorem in_lo {c : Prop} {k r : Int} (h : c → 0 ≤ k ∧ k < r) (hc : c) : 0 ≤ k := (h hc).1
theorem le24 {n m c : Nat} (h : n = m) (k : m < c) (hc : Nat.ble c 16777216 = true) : n ≤ 16777216 := h ▸ Nat.le_trans (Nat.le_of_lt k) (Nat.le_of_ble_eq_true hc)
theorem le24' {m c : Nat} (k : m < c) (hc : Nat.ble c 16777216 = true) : m ≤ 16777216 := Nat.le_trans (Nat.le_of_lt k) (Nat.le_of_ble_eq_true hc)
theorem lt_at {l : List (Addr × Obj)} {a d : Addr} {o : Obj} (h : ∀ p ∈ l, p.1 < d) (m : (a, o) ∈ l) : @LT.lt Nat _ a d := h _ m
theorem dirs {d : Int} (h0 : 0 ≤ d) (h8 : d < 8) : d = 0 ∨ d = 1 ∨ d = 2 ∨ d = 3 ∨ d = 4 ∨ d = 5 ∨ d = 6 ∨ d = 7 :=
  (le_step h0).imp id fun h => (le_step h).imp id fun h => (le_step h).imp id fun h => (le_step h).imp id fun h => (le_step h).imp id fun h => (le_step h).imp id fun h => (le_step h).elim .inl fun h => .inr (Int.le_antisymm (Int.le_of_lt_add_one h8) h)
theorem four {F : Int} (h : 3 ≤ F ∧ F ≤ 6) : F = 3 ∨ F = 4 ∨ F = 5 ∨ F = 6 :=
  (le_step h.1).imp id fun k => (le_step k).imp id fun k => (le_step k).elim .inl fun k => .inr (Int.le_antisymm h.2 k)
theorem kinds {k : Int} (h : 1 ≤ k ∧ k ≤ 6) : k = 1 ∨ k = 2 ∨ k = 3 ∨ k = 4 ∨ k = 5 ∨ k = 6 :=
  (le_step h.1).imp id fun k => (le_step k).imp id fun k => four ⟨k, h.2⟩
theorem sides {k : Int} (h : 0 ≤ k ∧ k ≤ 1) : k = 0 ∨ k = 1 := (le_step h.1).imp id fun k => Int.le_antisymm h.2 k
theorem mids {k : Int} (h : 3 ≤ k ∧ k ≤ 5) : k = 3 ∨ k = 4 ∨ k = 5 := (le_step h.1).imp id fun k => (le_step k).imp id fun k => Int.le_antisymm h.2 k
/-- the turn of a loop over a side -/
theorem turn6 {k R : Int} {n : Nat} (hR : 3 ≤ R ∧ R ≤ 6) (hk : k = 0 + (n : Int)) (hl : n < (R - 0).toNat) : 0 ≤ k ∧ k < 6 := by
  rw [hk, Int.zero_add]
  refine ⟨Int.natCast_nonneg n, ?_⟩
  rw [Int.sub_zero] at hl
  exact Int.lt_of_lt_of_le (Int.lt_toNat.mp hl) hR.2
theorem turnM {k c : Int} (h : 0 ≤ k ∧ k < 6) (h0 : 0 ≤ c) (h6 : c ≤ 6) : 0 ≤ k * c ∧ k * c ≤ 36 :=
  ⟨Int.mul_nonneg h.1 h0, Int.le_trans (Int.mul_le_mul (Int.le_of_lt h.2) h6 h0 (by decide)) (by decide)⟩
theorem mem_lt {n m : Nat} {R : Int} (hR : 3 ≤ R ∧ R ≤ 6) (h : n = m) (hl : m < (R - 0).toNat) : n ≤ 16777216 := by
  rw [h]
  exact Nat.le_trans (Nat.le_of_lt hl) (Int.toNat_le.mpr (Int.le_trans (by rw [Int.sub_zero]; exact hR.2) (by decide)))

theorem allLt_mem {d : Addr} : ∀ {l : List (Addr × Obj)}, AllLt d l → ∀ p ∈ l, p.1 < d
  | [], _, _, h => nomatch h
  | q :: r, x, p, h => by
    rcases List.mem_cons.mp h with rfl | h
    · exact x.1
    · exact allLt_mem x.2 p h

theorem off1_mem {D : Addr} : ∀ {l : List (Addr × Obj)}, LCg.Off1 D l → ∀ p ∈ l, p.1 ≠ D
  | [], _, _, h => nomatch h
  | q :: r, x, p, h => by
    rcases List.mem_cons.mp h with rfl | h
    · exact x.1
    · exact off1_mem x.2 p h
theorem off1_ne {D : Addr} {l : List (Addr × Obj)} {p : Addr × Obj} (h : LCg.Off1 D l) (hp : p ∈ l) : @Ne Nat p.1 D := off1_mem h p hp
theorem off1_ne' {D c : Addr} {o : Obj} {l : List (Addr × Obj)} (h : LCg.Off1 D l) (hp : (c, o) ∈ l) : @Ne Nat D c := Ne.symm (off1_mem h (c, o) hp)
theorem drop2 {news : List (Addr × Obj)} {a b p : Addr × Obj} (hp : p ∈ a :: news) : p ∈ a :: b :: news := by
  rcases List.mem_cons.mp hp with rfl | hp
  · exact List.mem_cons_self
  · exact List.mem_cons_of_mem _ (List.mem_cons_of_mem _ hp)

theorem item_ref {prog : Program} {w : World} {A : Around} {E : Value → Shared → Prop} {s : Shared} {value slice : PySem.Expr} {l : Addr} {vs : List Value} {k : Int} {u : Tok} {v : Value} {Q : Value → Shared → Prop}
    (hl : s.heap.IsList l vs.toArray) (hx : vs[k.toNat]? = some v) (h0 : 0 ≤ k) (hhi : k < 2 ^ 63) (h : Q v s)
    (hs : subscripted slice false (.ref l) (.int k u) = operate [.ref l, .int k u] (getItem (.ref l) (.int k u)) := by with_unfolding_all rfl) :
    wpAny (model prog w) A (subscriptTail value slice (.ref l) (.int k u)) Q E s :=
  tail_any hl.typeIs slot_list_getitem.lookup (wpAny_getItem_list hl h0 hhi (by simpa using hx) h) hs

theorem unr_end {h₀ : Heap} {L I : Addr} {it : Obj} {rest : (Str → Option Value) → List (Addr × Obj) → Prop} {s₁ : Shared} {h' : Heap} {tk : Nat} {m' : Str → Option Value} {news' : List (Addr × Obj)} (F : Fr h₀ L h' m') (N : News h₀ L h' ((I, it) :: news'))
    (l : ∀ p ∈ news', p.1 < I) (r : rest m' news') : UnrEnd h₀ L s₁ I it rest { s₁ with heap := h', toks := tk } :=
  UnrEnd.intro F N news' (fun _ h => h) (fun p hp => Nat.ne_of_lt (l p hp)) r

theorem same1 {stored : List Str} {u m₀ : Str → Option Value} {z : Str} (hs : stored.contains z = false) : kstB (fun z => if stored.contains z then u z else m₀ z) [] z = m₀ z := by
  show (if stored.contains z = true then u z else m₀ z) = m₀ z
  rw [hs]; rfl
theorem not_stored {stored : List Str} {z y : Str} (hs : stored.contains z = false) (hy : stored.contains y = true) : z ≠ y := fun e => by rw [e, hy] at hs; cases hs

theorem five_cells {cm : Str → Option Value} {n₁ n₂ n₃ n₄ n₅ : Str} {c₁ c₂ c₃ c₄ c₅ : Addr} {cells : List (Addr × Obj)} (x : CellsAre cm [(n₁, c₁), (n₂, c₂), (n₃, c₃), (n₄, c₄), (n₅, c₅)] cells) :
    ∃ o₁ o₂ o₃ o₄ o₅, cells = [(c₁, o₁), (c₂, o₂), (c₃, o₃), (c₄, o₄), (c₅, o₅)] ∧ o₁.data = .cell (cm n₁) ∧ o₂.data = .cell (cm n₂) ∧ o₃.data = .cell (cm n₃) ∧ o₄.data = .cell (cm n₄) ∧ o₅.data = .cell (cm n₅) := by
  cases x with | cons h r => obtain ⟨o₂, o₃, o₄, o₅, rfl, h₂, h₃, h₄, h₅⟩ := r.four; exact ⟨_, o₂, o₃, o₄, o₅, rfl, h, h₂, h₃, h₄, h₅⟩

/-- a turn of a comprehension with a test: the item is kept -/
def CtYes (news : List (Addr × Obj)) (c : Prop) (r : Int) (y : Value) (news' : List (Addr × Obj)) : Prop := news' = news ∧ c ∧ ∃ t : Tok, y = .int r t
/-- it is not -/
def CtNo (news : List (Addr × Obj)) (c : Prop) (_ : Value) (news' : List (Addr × Obj)) : Prop := news' = news ∧ c

section
variable {prog : Program} {w : World} {A : Around} {h₀ : Heap} {L : Addr} {m : Str → Option Value} {env : Env} {ct elt : Expr} {x : Str} {scope : Scope} {cl : List (Str × Addr)} {s : Shared} {S : List (Addr × Obj) → Prop} {P : Nat → Value → Prop} {Fin : List Value → List (Addr × Obj) → Prop} {news : List (Addr × Obj)}

theorem ct_rest {n : Nat} {ks : List Int} (f : Int → Bool) (g : Int → Int) (hks : ks.length = n) (hP : ∀ i v, i < n → P i v → ∃ k t, ks[i]? = some k ∧ v = .int k t)
    (turn : ∀ k t I oI C oC D m₂ ys h tk (E' : Value → Shared → Prop), k ∈ ks → LCg.NsObj oC m₂ → m₂ x = some (.int k t) → Fr h₀ L h m → News h₀ L h ((I, oI) :: (C, oC) :: (D, LCg.lst ys) :: news) → LCg.Off3 I C D news → ((@Ne Nat I C) ∧ (@Ne Nat I D) ∧ (@Ne Nat C D)) →
      wpAny (model prog w) A (isTrue ct (compEnvC scope cl C env) (eval ct (compEnvC scope cl C env))) (fun ok s' => if ok = true then
        wpAny (model prog w) A (eval elt (compEnvC scope cl C env)) (LCg.CompEnd h₀ L m { s with heap := h, toks := tk } I oI C oC D (LCg.lst ys) S (fun y news' => CtYes news (f k = true) (g k) y news')) E' s'
        else LCg.CompEnd h₀ L m { s with heap := h, toks := tk } I oI C oC D (LCg.lst ys) S (fun y news' => CtNo news (f k = false) y news') Value.none s') E' { s with heap := h, toks := tk })
    (fin : ∀ ys, IntsAre ys ((ks.filter f).map g) → Fin ys news) : LCt.CompRestT prog w A h₀ L m env ct elt x scope cl s S P Fin n 0 [] news := by
  have key : ∀ (j i : Nat) (ys : List Value), i + j = n → IntsAre ys (((ks.take i).filter f).map g) → LCt.CompRestT prog w A h₀ L m env ct elt x scope cl s S P Fin j i ys news := by
    intro j
    induction j with
    | zero =>
      intro i ys hi hy
      have e : i = ks.length := by omega
      subst e
      rw [List.take_length] at hy
      exact LCt.CompRestT.zero (fin ys hy)
    | succ j ih =>
      intro i ys hi hy
      refine LCt.CompRestT.succ ?_
      intro v I oI C oC D m₂ h tk E' hv hC hx F N off ne
      obtain ⟨k, t, hk, hv'⟩ := hP i v (by omega) hv
      rw [hv'] at hx
      refine wpAny_mono (turn k t I oI C oC D m₂ ys h tk E' (List.mem_of_getElem? hk) hC hx F N off ne) (fun ok s₂ hq => ?_) fun _ _ e => e
      cases ok with
      | true =>
        simp only [if_true] at hq ⊢
        refine wpAny_mono hq (fun y s₃ hq => ?_) fun _ _ e => e
        obtain ⟨h', tk', nw, e, F', N', off', hS, hn, hc, t', hy'⟩ := hq
        rw [hn] at N' off' hS
        refine ⟨h', tk', news, e, F', N', off', hS, ?_⟩
        rw [hy']
        refine ih (i + 1) _ (by omega) ?_
        rw [List.take_add_one, hk]
        simpa [hc] using IntsAre.append hy (.cons (g k) t' .nil)
      | false =>
        simp only [Bool.false_eq_true, if_false] at hq ⊢
        obtain ⟨h', tk', nw, e, F', N', off', hS, hn, hc⟩ := hq
        rw [hn] at N' off' hS
        refine ⟨h', tk', news, e, F', N', off', hS, ?_⟩
        refine ih (i + 1) _ (by omega) ?_
        rw [List.take_add_one, hk]
        simpa [hc] using hy
  exact key n 0 [] (by omega) (by simp only [List.take_zero, List.filter_nil, List.map_nil]; exact .nil)

theorem ct_range {n : Nat} {a : Int} (f : Int → Bool) (g : Int → Int)
    (turn : ∀ k t I oI C oC D m₂ ys h tk (E' : Value → Shared → Prop), a ≤ k → k < a + (n : Int) → LCg.NsObj oC m₂ → m₂ x = some (.int k t) → Fr h₀ L h m → News h₀ L h ((I, oI) :: (C, oC) :: (D, LCg.lst ys) :: news) → LCg.Off3 I C D news → ((@Ne Nat I C) ∧ (@Ne Nat I D) ∧ (@Ne Nat C D)) →
      wpAny (model prog w) A (isTrue ct (compEnvC scope cl C env) (eval ct (compEnvC scope cl C env))) (fun ok s' => if ok = true then
        wpAny (model prog w) A (eval elt (compEnvC scope cl C env)) (LCg.CompEnd h₀ L m { s with heap := h, toks := tk } I oI C oC D (LCg.lst ys) S (fun y news' => CtYes news (f k = true) (g k) y news')) E' s'
        else LCg.CompEnd h₀ L m { s with heap := h, toks := tk } I oI C oC D (LCg.lst ys) S (fun y news' => CtNo news (f k = false) y news') Value.none s') E' { s with heap := h, toks := tk })
    (fin : ∀ ys, IntsAre ys (((rangeKs a n).filter f).map g) → Fin ys news) : LCt.CompRestT prog w A h₀ L m env ct elt x scope cl s S (fun i v => ∃ t, v = .int (a + (i : Int)) t) Fin n 0 [] news :=
  ct_rest (ks := rangeKs a n) f g (rangeKs_length a n) (fun i v hi hv => by
    obtain ⟨t, e⟩ := hv
    exact ⟨a + (i : Int), t, by simp [rangeKs, hi], e⟩)
    (fun k t I oI C oC D m₂ ys h tk E' hk hC hx F N off ne => turn k t I oI C oC D m₂ ys h tk E' (mem_rangeKs hk).1 (mem_rangeKs hk).2 hC hx F N off ne) fin

theorem ct_list {vs : List Value} {ns : List Int} (f : Int → Bool) (g : Int → Int) (hi : IntsAre vs ns)
    (turn : ∀ k t I oI C oC D m₂ ys h tk (E' : Value → Shared → Prop), k ∈ ns → LCg.NsObj oC m₂ → m₂ x = some (.int k t) → Fr h₀ L h m → News h₀ L h ((I, oI) :: (C, oC) :: (D, LCg.lst ys) :: news) → LCg.Off3 I C D news → ((@Ne Nat I C) ∧ (@Ne Nat I D) ∧ (@Ne Nat C D)) →
      wpAny (model prog w) A (isTrue ct (compEnvC scope cl C env) (eval ct (compEnvC scope cl C env))) (fun ok s' => if ok = true then
        wpAny (model prog w) A (eval elt (compEnvC scope cl C env)) (LCg.CompEnd h₀ L m { s with heap := h, toks := tk } I oI C oC D (LCg.lst ys) S (fun y news' => CtYes news (f k = true) (g k) y news')) E' s'
        else LCg.CompEnd h₀ L m { s with heap := h, toks := tk } I oI C oC D (LCg.lst ys) S (fun y news' => CtNo news (f k = false) y news') Value.none s') E' { s with heap := h, toks := tk })
    (fin : ∀ ys, IntsAre ys ((ns.filter f).map g) → Fin ys news) : LCt.CompRestT prog w A h₀ L m env ct elt x scope cl s S (fun i v => vs.toArray[i]? = some v) Fin vs.toArray.size 0 [] news :=
  ct_rest (ks := ns) f g (by rw [List.size_toArray]; exact hi.length.symm) (fun i v _ hv => by
    obtain ⟨k, t, e, hk⟩ := IntsAre.at hi i v (by simpa using hv)
    exact ⟨k, t, hk, e⟩) turn fin

theorem ct_yes {I C D : Addr} {oI oC oD : Obj} {s₁ : Shared} {h' : Heap} {tk : Nat} {t : Tok} {all : List (Addr × Obj)} {c : Prop} {r r' : Int}
    (F : Fr h₀ L h' m) (N : News h₀ L h' all) (sub : ∀ p ∈ (I, oI) :: (C, oC) :: (D, oD) :: news, p ∈ all) (off : LCg.Off3 I C D news) (hS : S news) (hc : c) (e : r' = r) :
    LCg.CompEnd h₀ L m s₁ I oI C oC D oD S (fun y news' => CtYes news c r y news') (.int r' t) { s₁ with heap := h', toks := tk } :=
  LCg.CompEnd.intro F N news sub off hS ⟨rfl, hc, t, by rw [e]⟩
theorem ct_no {I C D : Addr} {oI oC oD : Obj} {s₁ : Shared} {h' : Heap} {tk : Nat} {v : Value} {all : List (Addr × Obj)} {c : Prop}
    (F : Fr h₀ L h' m) (N : News h₀ L h' all) (sub : ∀ p ∈ (I, oI) :: (C, oC) :: (D, oD) :: news, p ∈ all) (off : LCg.Off3 I C D news) (hS : S news) (hc : c) :
    LCg.CompEnd h₀ L m s₁ I oI C oC D oD S (fun y news' => CtNo news c y news') v { s₁ with heap := h', toks := tk } :=
  LCg.CompEnd.intro F N news sub off hS ⟨rfl, hc⟩
end

/-- a turn of a comprehension without a test -/
def CuEl (news : List (Addr × Obj)) (r : Int) (y : Value) (news' : List (Addr × Obj)) : Prop := news' = news ∧ ∃ t : Tok, y = .int r t
section
variable {prog : Program} {w : World} {A : Around} {h₀ : Heap} {L : Addr} {m : Str → Option Value} {env : Env} {elt : Expr} {x : Str} {scope : Scope} {cl : List (Str × Addr)} {s : Shared} {S : List (Addr × Obj) → Prop} {P : Nat → Value → Prop} {Fin : List Value → List (Addr × Obj) → Prop} {news : List (Addr × Obj)}

theorem cu_rest {n : Nat} {ks : List Int} (g : Int → Int) (hks : ks.length = n) (hP : ∀ i v, i < n → P i v → ∃ k t, ks[i]? = some k ∧ v = .int k t)
    (turn : ∀ k t I oI C oC D m₂ ys h tk (E' : Value → Shared → Prop), k ∈ ks → LCg.NsObj oC m₂ → m₂ x = some (.int k t) → Fr h₀ L h m → News h₀ L h ((I, oI) :: (C, oC) :: (D, LCg.lst ys) :: news) → LCg.Off3 I C D news → ((@Ne Nat I C) ∧ (@Ne Nat I D) ∧ (@Ne Nat C D)) →
      wpAny (model prog w) A (eval elt (compEnvC scope cl C env)) (LCg.CompEnd h₀ L m { s with heap := h, toks := tk } I oI C oC D (LCg.lst ys) S (fun y news' => CuEl news (g k) y news')) E' { s with heap := h, toks := tk })
    (fin : ∀ ys, IntsAre ys (ks.map g) → Fin ys news) : LCg.CompRest prog w A h₀ L m env elt x scope cl s S P Fin n 0 [] news :=
  kcf_rest g hks hP (fun k t I oI C oC D m₂ ys h tk E' hk hC hx F N off ne _ => turn k t I oI C oC D m₂ ys h tk E' hk hC hx F N off ne) fin
theorem cu_range {n : Nat} {a : Int} (g : Int → Int)
    (turn : ∀ k t I oI C oC D m₂ ys h tk (E' : Value → Shared → Prop), a ≤ k → k < a + (n : Int) → LCg.NsObj oC m₂ → m₂ x = some (.int k t) → Fr h₀ L h m → News h₀ L h ((I, oI) :: (C, oC) :: (D, LCg.lst ys) :: news) → LCg.Off3 I C D news → ((@Ne Nat I C) ∧ (@Ne Nat I D) ∧ (@Ne Nat C D)) →
      wpAny (model prog w) A (eval elt (compEnvC scope cl C env)) (LCg.CompEnd h₀ L m { s with heap := h, toks := tk } I oI C oC D (LCg.lst ys) S (fun y news' => CuEl news (g k) y news')) E' { s with heap := h, toks := tk })
    (fin : ∀ ys, IntsAre ys ((rangeKs a n).map g) → Fin ys news) : LCg.CompRest prog w A h₀ L m env elt x scope cl s S (fun i v => ∃ t, v = .int (a + (i : Int)) t) Fin n 0 [] news :=
  cu_rest (ks := rangeKs a n) g (rangeKs_length a n) (fun i v hi hv => by
    obtain ⟨t, e⟩ := hv
    exact ⟨a + (i : Int), t, by simp [rangeKs, hi], e⟩)
    (fun k t I oI C oC D m₂ ys h tk E' hk hC hx F N off ne => turn k t I oI C oC D m₂ ys h tk E' (mem_rangeKs hk).1 (mem_rangeKs hk).2 hC hx F N off ne) fin
theorem cu_list {vs : List Value} {ns : List Int} (g : Int → Int) (hi : IntsAre vs ns)
    (turn : ∀ k t I oI C oC D m₂ ys h tk (E' : Value → Shared → Prop), k ∈ ns → LCg.NsObj oC m₂ → m₂ x = some (.int k t) → Fr h₀ L h m → News h₀ L h ((I, oI) :: (C, oC) :: (D, LCg.lst ys) :: news) → LCg.Off3 I C D news → ((@Ne Nat I C) ∧ (@Ne Nat I D) ∧ (@Ne Nat C D)) →
      wpAny (model prog w) A (eval elt (compEnvC scope cl C env)) (LCg.CompEnd h₀ L m { s with heap := h, toks := tk } I oI C oC D (LCg.lst ys) S (fun y news' => CuEl news (g k) y news')) E' { s with heap := h, toks := tk })
    (fin : ∀ ys, IntsAre ys (ns.map g) → Fin ys news) : LCg.CompRest prog w A h₀ L m env elt x scope cl s S (fun i v => vs.toArray[i]? = some v) Fin vs.toArray.size 0 [] news :=
  cu_rest (ks := ns) g (by rw [List.size_toArray]; exact hi.length.symm) (fun i v _ hv => by
    obtain ⟨k, t, e, hk⟩ := IntsAre.at hi i v (by simpa using hv)
    exact ⟨k, t, hk, e⟩) turn fin
theorem cu_end {I C D : Addr} {oI oC oD : Obj} {s₁ : Shared} {h' : Heap} {tk : Nat} {t : Tok} {all : List (Addr × Obj)} {r r' : Int}
    (F : Fr h₀ L h' m) (N : News h₀ L h' all) (sub : ∀ p ∈ (I, oI) :: (C, oC) :: (D, oD) :: news, p ∈ all) (off : LCg.Off3 I C D news) (hS : S news) (e : r' = r) :
    LCg.CompEnd h₀ L m s₁ I oI C oC D oD S (fun y news' => CuEl news r y news') (.int r' t) { s₁ with heap := h', toks := tk } :=
  LCg.CompEnd.intro F N news sub off hS ⟨rfl, t, by rw [e]⟩
end

section
variable {prog : Program} {w : World} {A A₀ : Around} {s : Shared} {K : Frag} {L : Addr} {h₀ base : Heap} {m mg mb : Str → Option Value} {news : List (Addr × Obj)} {p : Program} {loose : List Str} {mean : ExcName → Option Value}
/-- a def that leaves all that stood before it: its own ledger starts empty -/
theorem code_def0 {env : Env} {outer : List Env} {R : Result → Shared → Prop} {name qual : Str} {params : Arguments} {body : List Stmt} {scope : Scope} {dV kV doc pm cdv ct oc : Value} {an od : Option Addr} {osl : Array (Option Value)} {f : Addr} {args : Args} {binds : List (Str × Value)}
    (B : Below A₀ base outer h₀) (F : Fr h₀ L s.heap m) (X₀ : K.In h₀) (T : Top p loose mean mg mb h₀) (hA : A.frames = some (env :: outer)) (hf : env.frame = some L) (hke : env.scope.kind = .function)
    (ho : K.lookup f = some ⟨oc, od, .func (fnOf name qual params body scope dV kV doc pm an cdv ct), osl⟩) (hcd : codeIn K cdv qual = true) (hroom : A.depth < recursionLimit)
    (hbind : BindsTo s (fnOf name qual params body scope dV kV doc pm an cdv ct) args binds) (hloc : ∀ y ∈ binds, scope.names.lookup y.1 = some .local)
    (h : ∀ L' h₁, Fr s.heap L' h₁ (fun y => binds.reverse.lookup y) → News s.heap L' h₁ [] → Below A base (env :: outer) s.heap → K.In s.heap → Top p loose mean mg mb s.heap →
      wpAny (model prog w) (A.deeper (envOf qual scope L' f cdv)) (execs body (envOf qual scope L' f cdv))
        (fun fl s' => LeaveK h₀ L m s.heap (fun r s'' => s.heap.StaysIn s''.heap → R r s'') (match fl with | .ret v => v | _ => .none) s')
        (fun e s' => wpAny (model prog w) (A.deeper (envOf qual scope L' f cdv)) (leaving (envOf qual scope L' f cdv) e) (fun _ s'' => R (.error e) s'') (fun e' s'' => R (.error e') s'') s')
        { s with heap := h₁, toks := s.toks + binds.length })
    (hco : scope.isCoroutine = false) (hgen : scope.isGenerator = false) (hk : scope.kind = .function)
    (hcell : ∀ x ∈ scope.names, x.2 ≠ .cell) : codeAny (model prog w) A (.call (.ref f) args) R s := by
  have B₁ := pushX B F hf hke
  obtain ⟨oL, es, ep, hL, hLd, hLk, hLf⟩ := F.ns
  refine codeAny_call_def (fd := fnX name qual params body scope [] dV kV doc pm an cdv ct) (body := body) (binds := binds) hroom ((X₀.keeps F.keep) _ _ ho) rfl (T.nolimit.keeps F.keep) (codeRec_of (X₀.keeps F.keep) hcd) rfl hbind hcell hloc (fun h₁ hns hk₁ => ?_) hco hgen hk
  refine wpAny_mono (h s.heap.objs.size h₁ ⟨hns, hk₁, Nat.le_refl _⟩ News.nil ⟨hA, fun b o e => F.keep b o (B.stays b o e), B₁.frames⟩ (X₀.keeps F.keep) (T.keeps F.keep)) (fun fl s' hl => ?_) fun _ _ y => y
  obtain ⟨L', m', G, F', N', k⟩ := hl
  refine k ⟨⟨oL, es, ep, F'.keep L oL hL, hLd, hLk, hLf⟩, fun b o e => F'.keep b o (F.keep b o e), F.above⟩ (fun q hq => ⟨(N' q hq).1, fun z => ?_, ?_⟩) F'.keep
  · have := (N' q hq).2.2; rw [z, hL] at this; cases this
  · cases z : h₀.get? q.1 with
    | none => rfl
    | some o => have := (N' q hq).2.2; rw [F.keep _ _ z] at this; cases this
end

theorem isStr_str {v : Value} {x y : Str} (h : v.isStr x = true) (hy : v.isStr y = true) : x = y := by
  cases v <;> simp only [Value.isStr, Bool.false_eq_true] at h hy
  exact (eq_of_beq h).symm.trans (eq_of_beq hy)
theorem getL_put_self {name : Str} {hsh : Int} {t : Tok} {v : Value} : ∀ es : List DictEntry, getL name (putL name hsh (.str name t) v es) = some (some v)
  | [] => by simp [putL, getL, Value.isStr]
  | e :: r => by
    have ih := getL_put_self (name := name) (hsh := hsh) (t := t) (v := v) r
    unfold putL
    cases h : e.key.isStr name with
    | true => simp [getL, h]
    | false =>
      simp only [Bool.false_eq_true, if_false]
      unfold getL at ih ⊢
      rw [List.find?_cons]
      simp only [h]
      cases hf : List.find? (fun x => x.key.isStr name) (putL name hsh (.str name t) v r) with
      | none => rw [hf] at ih; simp only at ih; split at ih <;> cases ih
      | some q => rw [hf] at ih; exact ih
theorem put_any {name : Str} {hsh : Int} {t : Tok} {v : Value} : ∀ es : List DictEntry, (putL name hsh (.str name t) v es).any (·.refKey) = es.any (·.refKey)
  | [] => rfl
  | e :: r => by
    unfold putL
    cases h : e.key.isStr name with
    | true => simp only [if_true, List.any_cons]; rfl
    | false => simp only [Bool.false_eq_true, if_false, List.any_cons]; rw [put_any r]
theorem put_find {name x : Str} {hsh : Int} {t : Tok} {v : Value} (hx : x ≠ name) : ∀ es : List DictEntry, ((putL name hsh (.str name t) v es).find? (·.key.isStr x)).map (·.val) = (es.find? (·.key.isStr x)).map (·.val)
  | [] => by
    have : (name == x) = false := beq_eq_false_iff_ne.mpr (Ne.symm hx)
    simp [putL, Value.isStr, this]
  | e :: r => by
    unfold putL
    cases h : e.key.isStr name with
    | true =>
      have h2 : e.key.isStr x = false := by
        cases q : e.key.isStr x with
        | false => rfl
        | true => exact absurd (isStr_str q h) hx
      simp [h2]
    | false =>
      simp only [Bool.false_eq_true, if_false, List.find?_cons]
      cases e.key.isStr x with
      | true => rfl
      | false => exact put_find hx r
theorem getL_find (x : Str) (es : List DictEntry) : getL x es = match (es.find? (·.key.isStr x)).map (·.val) with | some v => some (some v) | none => if es.any (·.refKey) then none else some none := by
  unfold getL
  cases es.find? (·.key.isStr x) <;> rfl
theorem getL_put_ne {name x : Str} {hsh : Int} {t : Tok} {v : Value} (hx : x ≠ name) (es : List DictEntry) : getL x (putL name hsh (.str name t) v es) = getL x es := by
  rw [getL_find, getL_find, put_find hx, put_any]
theorem putL_len {name : Str} {hsh : Int} {k v : Value} : ∀ es : List DictEntry, (putL name hsh k v es).length ≤ es.length + 1
  | [] => Nat.le_refl _
  | e :: r => by
    unfold putL
    split
    · simp
    · simp only [List.length_cons]; exact Nat.succ_le_succ (putL_len r)
theorem rep_ints (n : Nat) (t : Tok) : IntsAre (List.replicate n [Value.int 0 t]).flatten (List.replicate n 0) := by
  induction n with
  | zero => exact .nil
  | succ n ih => rw [List.replicate_succ, List.replicate_succ, List.flatten_cons]; exact .cons _ _ ih

section
variable {prog : Program} {w : World} {A : Around} {E : Value → Shared → Prop} {s : Shared} {env : Env} {h₀ : Heap} {x : Str} {body : List Stmt} {Q : Flow → Shared → Prop} {I : Addr} {a : Int} {n : Nat}
theorem unrPost_mono {L : Addr} {s₁ : Shared} {it : Obj} {r r' : (Str → Option Value) → List (Addr × Obj) → Prop} (h : ∀ m nw, r m nw → r' m nw) {f : Flow} {s₂ : Shared} (x : UnrPost h₀ L s₁ I it r Q f s₂) : UnrPost h₀ L s₁ I it r' Q f s₂ := by
  have up : UnrEnd h₀ L s₁ I it r s₂ → UnrEnd h₀ L s₁ I it r' s₂ := by
    rintro ⟨h', tk, m', nw, e, F', N', off, hr⟩
    exact ⟨h', tk, m', nw, e, F', N', off, h _ _ hr⟩
  cases f with
  | ret v => exact x
  | brk => exact x
  | next => exact up x
  | cont => exact up x
/-- a written range turn by turn, with an invariant over the frame and a ledger that may grow -/
theorem range_rest_inv (Inv : Nat → (Str → Option Value) → List (Addr × Obj) → Prop)
    (turn : ∀ i m news t h tk, i < n → Inv i m news → Fr h₀ env.locals h (fun y => if y = x then some (.int (a + (i : Int)) t) else m y) → News h₀ env.locals h ((I, itR (a + ((i + 1 : Nat) : Int)) ((n : Int) - ((i + 1 : Nat) : Int))) :: news) →
      wpAny (model prog w) A (execs body env) (UnrPost h₀ env.locals { s with heap := h, toks := tk } I (itR (a + ((i + 1 : Nat) : Int)) ((n : Int) - ((i + 1 : Nat) : Int))) (Inv (i + 1)) Q) E { s with heap := h, toks := tk })
    (done : ∀ m news h tk, Inv n m news → Fr h₀ env.locals h m → News h₀ env.locals h news → Q .next { s with heap := h, toks := tk }) :
    ∀ m news, Inv 0 m news → RangeRest prog w A E h₀ env x body Q s I a n n 0 m news := by
  have key : ∀ (k i : Nat) m news, i + k = n → Inv i m news → RangeRest prog w A E h₀ env x body Q s I a n k i m news := by
    intro k
    induction k with
    | zero =>
      intro i m news hi hv
      have e : i = n := by omega
      subst e
      exact RangeRest.zero fun h tk F N => done m news h tk hv F N
    | succ k ih =>
      intro i m news hi hv
      refine RangeRest.succ fun t h tk F N => ?_
      exact wpAny_mono (turn i m news t h tk (by omega) hv F N) (fun f s₂ p => unrPost_mono (fun m' nw hr => ih (i + 1) m' nw (by omega) hr) p) fun _ _ e => e
  exact fun m news hv => key n 0 m news (by omega) hv
end

structure Tabs where
  ray : Nat → List Int
  king : List Int
  knight : List Int
  pawn0 : List Int
  pawn1 : List Int

/-- the board of files F and ranks R with the tables T stands at g -/
abbrev GeoAt (news : List (Addr × Obj)) (g : Addr) (F R : Int) (T : Tabs) (dg : Addr) (es : List DictEntry) (ng : Nat) (uF : Tok) (uS : Tok) (rA : Addr) (rs : List Value) (nr : Nat) (kA : Addr) (kv : List Value) (kn : Nat) (nA : Addr) (nv : List Value) (nn : Nat) (pA : Addr) (np : Nat) (p0 : Addr) (v0 : List Value) (n0 : Nat) (p1 : Addr) (v1 : List Value) (n1 : Nat) : Prop :=
    (g, instObj 53 dg) ∈ news ∧ (dg, dictOf es ng) ∈ news ∧ getL "files" es = some (some (.int F uF)) ∧ getL "size" es = some (some (.int (F * R) uS)) ∧
    getL "rays" es = some (some (.ref rA)) ∧ (rA, listOf rs.toArray nr) ∈ news ∧ (∀ d, d < 8 → ∃ (a : Addr) (v : List Value) (n : Nat), rs[d]? = some (.ref a) ∧ (a, listOf v.toArray n) ∈ news ∧ IntsAre v (T.ray d)) ∧
    getL "king" es = some (some (.ref kA)) ∧ (kA, listOf kv.toArray kn) ∈ news ∧ IntsAre kv T.king ∧
    getL "knight" es = some (some (.ref nA)) ∧ (nA, listOf nv.toArray nn) ∈ news ∧ IntsAre nv T.knight ∧
    getL "pawn" es = some (some (.ref pA)) ∧ (pA, listOf #[.ref p0, .ref p1] np) ∈ news ∧ (p0, listOf v0.toArray n0) ∈ news ∧ IntsAre v0 T.pawn0 ∧ (p1, listOf v1.toArray n1) ∈ news ∧ IntsAre v1 T.pawn1
def GeoOk (news : List (Addr × Obj)) (g : Addr) (F R : Int) (T : Tabs) : Prop :=
  ∃ (dg : Addr) (es : List DictEntry) (ng : Nat) (uF : Tok) (uS : Tok) (rA : Addr) (rs : List Value) (nr : Nat) (kA : Addr) (kv : List Value) (kn : Nat) (nA : Addr) (nv : List Value) (nn : Nat) (pA : Addr) (np : Nat) (p0 : Addr) (v0 : List Value) (n0 : Nat) (p1 : Addr) (v1 : List Value) (n1 : Nat), GeoAt news g F R T dg es ng uF uS rA rs nr kA kv kn nA nv nn pA np p0 v0 n0 p1 v1 n1
set_option genInjectivity false in
set_option genSizeOf false in
structure GeoV where
  dg : Addr
  es : List DictEntry
  ng : Nat
  uF : Tok
  uS : Tok
  rA : Addr
  rs : List Value
  nr : Nat
  kA : Addr
  kv : List Value
  kn : Nat
  nA : Addr
  nv : List Value
  nn : Nat
  pA : Addr
  np : Nat
  p0 : Addr
  v0 : List Value
  n0 : Nat
  p1 : Addr
  v1 : List Value
  n1 : Nat
/-- the board's names, as constants -/
noncomputable def geoV (news : List (Addr × Obj)) (g : Addr) (F R : Int) (T : Tabs) : GeoV := @Classical.epsilon _ ⟨⟨0, [], 0, 0, 0, 0, [], 0, 0, [], 0, 0, [], 0, 0, 0, 0, [], 0, 0, [], 0⟩⟩ fun v => GeoAt news g F R T v.dg v.es v.ng v.uF v.uS v.rA v.rs v.nr v.kA v.kv v.kn v.nA v.nv v.nn v.pA v.np v.p0 v.v0 v.n0 v.p1 v.v1 v.n1
def GeoK (news : List (Addr × Obj)) (g : Addr) (F R : Int) (T : Tabs) (G : Prop) (dg : Addr) (es : List DictEntry) (ng : Nat) (uF : Tok) (uS : Tok) (rA : Addr) (rs : List Value) (nr : Nat) (kA : Addr) (kv : List Value) (kn : Nat) (nA : Addr) (nv : List Value) (nn : Nat) (pA : Addr) (np : Nat) (p0 : Addr) (v0 : List Value) (n0 : Nat) (p1 : Addr) (v1 : List Value) (n1 : Nat) : Prop := GeoAt news g F R T dg es ng uF uS rA rs nr kA kv kn nA nv nn pA np p0 v0 n0 p1 v1 n1 → G
def GeoAll (news : List (Addr × Obj)) (g : Addr) (F R : Int) (T : Tabs) (G : Prop) : Prop := ∀ dg es ng uF uS rA rs nr kA kv kn nA nv nn pA np p0 v0 n0 p1 v1 n1, GeoK news g F R T G dg es ng uF uS rA rs nr kA kv kn nA nv nn pA np p0 v0 n0 p1 v1 n1
theorem GeoOk.use {news : List (Addr × Obj)} {g : Addr} {F R : Int} {T : Tabs} {G : Prop} (h : GeoOk news g F R T) (k : GeoK news g F R T G (geoV news g F R T).dg (geoV news g F R T).es (geoV news g F R T).ng (geoV news g F R T).uF (geoV news g F R T).uS (geoV news g F R T).rA (geoV news g F R T).rs (geoV news g F R T).nr (geoV news g F R T).kA (geoV news g F R T).kv (geoV news g F R T).kn (geoV news g F R T).nA (geoV news g F R T).nv (geoV news g F R T).nn (geoV news g F R T).pA (geoV news g F R T).np (geoV news g F R T).p0 (geoV news g F R T).v0 (geoV news g F R T).n0 (geoV news g F R T).p1 (geoV news g F R T).v1 (geoV news g F R T).n1) : G := k (by
  obtain ⟨dg, es, ng, uF, uS, rA, rs, nr, kA, kv, kn, nA, nv, nn, pA, np, p0, v0, n0, p1, v1, n1, h⟩ := h
  exact @Classical.epsilon_spec _ (fun v : GeoV => GeoAt news g F R T v.dg v.es v.ng v.uF v.uS v.rA v.rs v.nr v.kA v.kv v.kn v.nA v.nv v.nn v.pA v.np v.p0 v.v0 v.n0 v.p1 v.v1 v.n1) ⟨⟨dg, es, ng, uF, uS, rA, rs, nr, kA, kv, kn, nA, nv, nn, pA, np, p0, v0, n0, p1, v1, n1⟩, h⟩)

theorem GeoOk.mono {news news' : List (Addr × Obj)} {g : Addr} {F R : Int} {T : Tabs} (h : GeoOk news g F R T) (k : ∀ p ∈ news, p ∈ news') : GeoOk news' g F R T := by
  obtain ⟨dg, es, ng, uF, uS, rA, rs, nr, kA, kv, kn, nA, nv, nn, pA, np, p0, v0, n0, p1, v1, n1, h1, h2, h3, h4, h5, h6, h7, h8, h9, h10, h11, h12, h13, h14, h15, h16, h17, h18, h19⟩ := h
  refine ⟨dg, es, ng, uF, uS, rA, rs, nr, kA, kv, kn, nA, nv, nn, pA, np, p0, v0, n0, p1, v1, n1, k _ h1, k _ h2, h3, h4, h5, k _ h6, ?_, h8, k _ h9, h10, h11, k _ h12, h13, h14, k _ h15, k _ h16, h17, k _ h18, h19⟩
  intro d hd
  obtain ⟨a, v, n, e1, e2, e3⟩ := h7 d hd
  exact ⟨a, v, n, e1, k _ e2, e3⟩
theorem GeoOk.cons {news : List (Addr × Obj)} {q : Addr × Obj} {g : Addr} {F R : Int} {T : Tabs} (h : GeoOk news g F R T) : GeoOk (q :: news) g F R T := h.mono fun _ hp => List.mem_cons_of_mem _ hp

/-- the lengths -/
structure TabsLen (T : Tabs) (n : Int) : Prop where
  ray : ∀ d, d < 8 → ((T.ray d).length : Int) = n
  king : (T.king.length : Int) = n
  knight : (T.knight.length : Int) = n
  pawn0 : (T.pawn0.length : Int) = n
  pawn1 : (T.pawn1.length : Int) = n

def growing (d : Int) : Bool := d == 0 || d == 1 || d == 4 || d == 7

def smear (stop : Int) : Int :=
  let b0 := stop.fdiv (2 ^ (1 : Int).toNat)
  let b1 := Builtin.bitOr b0 (b0.fdiv (2 ^ (1 : Int).toNat))
  let b2 := Builtin.bitOr b1 (b1.fdiv (2 ^ (2 : Int).toNat))
  let b3 := Builtin.bitOr b2 (b2.fdiv (2 ^ (4 : Int).toNat))
  let b4 := Builtin.bitOr b3 (b3.fdiv (2 ^ (8 : Int).toNat))
  let b5 := Builtin.bitOr b4 (b4.fdiv (2 ^ (16 : Int).toNat))
  Builtin.bitOr b5 (b5.fdiv (2 ^ (32 : Int).toNat))

def rayAtt (grow : Bool) (ray occ : Int) : Int :=
  let stop := Builtin.bitAnd ray occ
  if stop = 0 then ray
  else if grow then Builtin.bitAnd ray (Builtin.bitXor stop (stop - 1))
  else Builtin.bitAnd ray (Builtin.bitNot (smear stop))

def rayV (T : Tabs) (d : Int) (sq occ : Int) : Int := rayAtt (growing d) ((T.ray d.toNat).getD sq.toNat 0) occ
def rookV (T : Tabs) (sq occ : Int) : Int := Builtin.bitOr (Builtin.bitOr (Builtin.bitOr (Builtin.bitOr 0 (rayV T 0 sq occ)) (rayV T 1 sq occ)) (rayV T 2 sq occ)) (rayV T 3 sq occ)
def bishopV (T : Tabs) (sq occ : Int) : Int := Builtin.bitOr (Builtin.bitOr (Builtin.bitOr (Builtin.bitOr 0 (rayV T 4 sq occ)) (rayV T 5 sq occ)) (rayV T 6 sq occ)) (rayV T 7 sq occ)
def queenV (T : Tabs) (sq occ : Int) : Int := Builtin.bitOr (rookV T sq occ) (bishopV T sq occ)
def pieceV (T : Tabs) (side kind sq occ : Int) : Int :=
  if kind = 1 then (if side = 0 then T.pawn0.getD sq.toNat 0 else T.pawn1.getD sq.toNat 0)
  else if kind = 2 then T.knight.getD sq.toNat 0
  else if kind = 6 then T.king.getD sq.toNat 0
  else if kind = 3 then bishopV T sq occ
  else if kind = 4 then rookV T sq occ
  else if kind = 5 then queenV T sq occ
  else 0
def hasBit (bits i : Int) : Bool := Builtin.bitAnd (bits.fdiv (2 ^ i.toNat)) 1 == 1
def seenV (T : Tabs) (n : Nat) (side kind sq occ : Int) : List Int := (rangeKs 0 n).filter fun i => hasBit (pieceV T side kind sq occ) i

def colourV (F sq : Int) : Int := Builtin.bitAnd (sq.fmod F + sq.fdiv F) 1
def absV (x : Int) : Int := if x < 0 then -x else x
def distV (F x y : Int) : Int :=
  let files := absV (x.fmod F - y.fmod F)
  let ranks := absV (x.fdiv F - y.fdiv F)
  if ranks < files then files else ranks

theorem rangeKs_get {n : Nat} {q : Int} (h0 : 0 ≤ q) (h1 : q < n) : (rangeKs 0 n)[q.toNat]? = some q := by
  have h2 : q.toNat < n := by omega
  simp [rangeKs, h2]
  omega
theorem range_tab {f : Int → Int} {n : Int} {ys : List Value} (hn : 0 ≤ n) (h : IntsAre ys ((rangeKs 0 (n - 0).toNat).map f)) :
    ∃ W : List Int, (W.length : Int) = n ∧ (∀ q, 0 ≤ q → q < n → W.getD q.toNat 0 = f q) ∧ IntsAre ys W := by
  refine ⟨_, ?_, ?_, h⟩
  · rw [List.length_map, rangeKs_length]; omega
  · intro q h0 h1
    have := rangeKs_get (n := (n - 0).toNat) h0 (by omega)
    rw [List.getD_eq_getElem?_getD, List.getElem?_map, this]
    rfl
theorem seenV_len (T : Tabs) (n : Nat) (side kind sq occ : Int) : (seenV T n side kind sq occ).length ≤ n := by
  unfold seenV
  refine Nat.le_trans (List.length_filter_le _ _) ?_
  rw [rangeKs_length]; exact Nat.le_refl _
theorem mem_seenV {T : Tabs} {n : Nat} {side kind sq occ k : Int} (h : k ∈ seenV T n side kind sq occ) : 0 ≤ k ∧ k < n ∧ hasBit (pieceV T side kind sq occ) k = true := by
  unfold seenV at h
  obtain ⟨h1, h2⟩ := List.mem_filter.mp h
  have := mem_rangeKs h1
  exact ⟨by omega, by omega, h2⟩

def nearV (F : Int) (n : Nat) (sq : Int) : List Int := (rangeKs 0 n).filter fun q => distV F sq q == 1
def unlikeV (F sq q : Int) : Int := (colourV F q + colourV F sq).fmod 2
/-- what is asked of a square -/
structure Coloured (T : Tabs) (F : Int) (n : Nat) (sq men : Int) : Prop where
  king : seenV T n 0 6 sq men = nearV F n sq
  bishop : (seenV T n 0 3 sq men).filter (fun q => unlikeV F sq q == 1) = []
  rook : (seenV T n 0 4 sq men).filter (fun q => (unlikeV F sq q + distV F sq q).fmod 2 == 1) = []
  bishopNear : (seenV T n 0 3 sq men).filter (fun q => (nearV F n sq).any fun x => x == q) = (nearV F n sq).filter fun q => unlikeV F sq q == 0
  rookNear : (seenV T n 0 4 sq men).filter (fun q => (nearV F n sq).any fun x => x == q) = (nearV F n sq).filter fun q => unlikeV F sq q == 1
  pawns : (seenV T n 0 1 sq men ++ seenV T n 1 1 sq men).Perm ((nearV F n sq).filter fun q => unlikeV F sq q == 0)
  knight : seenV T n 0 2 sq men = (rangeKs 0 n).filter fun q => distV F sq q == 2 && unlikeV F sq q == 1
  queen : (seenV T n 0 3 sq men ++ seenV T n 0 4 sq men).Perm (seenV T n 0 5 sq men)

theorem mem_nearV {F : Int} {n : Nat} {sq k : Int} (h : k ∈ nearV F n sq) : 0 ≤ k ∧ k < n := by
  unfold nearV at h
  have := mem_rangeKs (List.mem_filter.mp h).1
  omega
theorem nearV_len (F : Int) (n : Nat) (sq : Int) : (nearV F n sq).length ≤ n := by
  unfold nearV
  refine Nat.le_trans (List.length_filter_le _ _) ?_
  rw [rangeKs_length]; exact Nat.le_refl _

theorem sorted_unique {a b : List Int} (p : a.Perm b) (ha : a.Pairwise (· ≤ ·)) (hb : b.Pairwise (· ≤ ·)) : a = b :=
  List.Perm.eq_of_pairwise (fun _ _ _ _ h1 h2 => Int.le_antisymm h1 h2) ha hb p
theorem rangeKs_sorted (n : Nat) : (rangeKs 0 n).Pairwise (· ≤ ·) := by
  unfold rangeKs
  rw [List.pairwise_map]
  refine List.Pairwise.imp (R := (· < ·)) (fun {a b} h => ?_) List.pairwise_lt_range
  omega
theorem nearV_sorted (F : Int) (n : Nat) (sq : Int) (f : Int → Bool) : ((nearV F n sq).filter f).Pairwise (· ≤ ·) := by
  unfold nearV
  exact List.Pairwise.filter _ (List.Pairwise.filter _ (rangeKs_sorted n))
theorem seenV_sorted (T : Tabs) (n : Nat) (side kind sq occ : Int) : (seenV T n side kind sq occ).Pairwise (· ≤ ·) := by
  unfold seenV
  exact List.Pairwise.filter _ (rangeKs_sorted n)

/-- the tables, reckoned as the program reckons them -/
def rankMasks (F R : Int) : List Int := (rangeKs 0 (R - 0).toNat).map fun r => (1 * 2 ^ F.toNat - 1) * 2 ^ (r * F).toNat
def columnV (F R : Int) : Int := (rangeKs 0 (R - 0).toNat).foldl (fun c r => Builtin.bitOr c (1 * 2 ^ (r * F).toNat)) 0
def fileMasks (F R : Int) : List Int := (rangeKs 0 (F - 0).toNat).map fun f => columnV F R * 2 ^ f.toNat

theorem shapes {F : Int} (h : 3 ≤ F ∧ F ≤ 6) : F = 3 ∨ F = 4 ∨ F = 5 ∨ F = 6 := four h
theorem column_fits {F R : Int} (hF : 3 ≤ F ∧ F ≤ 6) (hR : 3 ≤ R ∧ R ≤ 6) : (columnV F R).natAbs < 2 ^ 64 := by
  rcases shapes hF with rfl | rfl | rfl | rfl <;> rcases shapes hR with rfl | rfl | rfl | rfl <;> decide +kernel

def fullV (F R : Int) : Int := 1 * 2 ^ (F * R).toNat - 1
def notFirst (F R : Int) : Int := Builtin.bitAnd (fullV F R) (Builtin.bitNot ((fileMasks F R).getD (0 : Int).toNat 0))
def notLast (F R : Int) : Int := Builtin.bitAnd (fullV F R) (Builtin.bitNot ((fileMasks F R).getD (F - 1).toNat 0))
def notFirst2 (F R : Int) : Int := Builtin.bitAnd (notFirst F R) (Builtin.bitNot ((fileMasks F R).getD (1 : Int).toNat 0))
def notLast2 (F R : Int) : Int := Builtin.bitAnd (notLast F R) (Builtin.bitNot ((fileMasks F R).getD (F - 2).toNat 0))
def nearK (F R sq : Int) : Int := Builtin.bitOr (Builtin.bitAnd (1 * 2 ^ sq.toNat * 2 ^ (1 : Int).toNat) (notFirst F R)) (Builtin.bitAnd ((1 * 2 ^ sq.toNat : Int).fdiv (2 ^ (1 : Int).toNat)) (notLast F R))
def farK (F R sq : Int) : Int := Builtin.bitOr (Builtin.bitAnd (1 * 2 ^ sq.toNat * 2 ^ (2 : Int).toNat) (notFirst2 F R)) (Builtin.bitAnd ((1 * 2 ^ sq.toNat : Int).fdiv (2 ^ (2 : Int).toNat)) (notLast2 F R))
def knightV (F R sq : Int) : Int := Builtin.bitAnd (Builtin.bitOr (Builtin.bitOr (Builtin.bitOr (nearK F R sq * 2 ^ (2 * F).toNat) ((nearK F R sq).fdiv (2 ^ (2 * F).toNat))) (farK F R sq * 2 ^ F.toNat)) ((farK F R sq).fdiv (2 ^ F.toNat))) (fullV F R)
def knightTab (F R : Int) : List Int := (rangeKs 0 (F * R - 0).toNat).map fun q => knightV F R q
def pawnTab (n : Int) (king a b : List Int) : List Int := (rangeKs 0 (n - 0).toNat).map fun q => Builtin.bitAnd (king.getD q.toNat 0) (Builtin.bitOr (a.getD q.toNat 0) (b.getD q.toNat 0))
def near_ok (F R : Int) : Bool := (List.range 36).all fun i => decide ((nearK F R i).natAbs < 2 ^ 64) && decide ((farK F R i).natAbs < 2 ^ 64) && decide ((1 * 2 ^ (i : Int).toNat : Int).natAbs < 2 ^ 64)
theorem near_fits {F R : Int} (hF : 3 ≤ F ∧ F ≤ 6) (hR : 3 ≤ R ∧ R ≤ 6) {q : Int} (h0 : 0 ≤ q) (h1 : q < 36) : (nearK F R q).natAbs < 2 ^ 64 ∧ (farK F R q).natAbs < 2 ^ 64 ∧ (1 * 2 ^ q.toNat : Int).natAbs < 2 ^ 64 := by
  have h : near_ok F R = true := by
    rcases shapes hF with rfl | rfl | rfl | rfl <;> rcases shapes hR with rfl | rfl | rfl | rfl <;> decide +kernel
  have := List.all_eq_true.mp h q.toNat (List.mem_range.mpr (by omega))
  rw [Int.toNat_of_nonneg h0] at this
  simp only [Bool.and_eq_true, decide_eq_true_eq] at this
  exact ⟨this.1.1, this.1.2, this.2⟩
theorem fileMasks_len {F R : Int} (hF : 3 ≤ F) : ((fileMasks F R).length : Int) = F := by
  unfold fileMasks
  rw [List.length_map, rangeKs_length]; omega

def stepF (d : Int) : Int := [0, 1, 0, -1, 1, 1, -1, -1].getD d.toNat 0
def stepR (d : Int) : Int := [1, 0, -1, 0, 1, -1, -1, 1].getD d.toNat 0
def edgeV (F R d : Int) : Int :=
  let e1 := if 0 < stepF d then Builtin.bitOr 0 ((fileMasks F R).getD (F - 1).toNat 0) else 0
  let e2 := if stepF d < 0 then Builtin.bitOr e1 ((fileMasks F R).getD (0 : Int).toNat 0) else e1
  let e3 := if 0 < stepR d then Builtin.bitOr e2 ((rankMasks F R).getD (R - 1).toNat 0) else e2
  if stepR d < 0 then Builtin.bitOr e3 ((rankMasks F R).getD (0 : Int).toNat 0) else e3
def innerV (F R d : Int) : Int := Builtin.bitAnd (fullV F R) (Builtin.bitNot (edgeV F R d))
def deltaV (F d : Int) : Int := stepR d * F + stepF d
theorem rankMasks_len {F R : Int} (hR : 3 ≤ R) : ((rankMasks F R).length : Int) = R := by
  unfold rankMasks
  rw [List.length_map, rangeKs_length]; omega

def rayStep (inner delta : Int) (st : List Int × List Int) (sq : Int) : List Int × List Int :=
  if Builtin.bitAnd (inner.fdiv (2 ^ sq.toNat)) 1 = 0 then st
  else (st.1.set sq.toNat (Builtin.bitOr (st.1.getD (sq + delta).toNat 0) (1 * 2 ^ (sq + delta).toNat)), st.2.set sq.toNat (Builtin.bitOr (st.2.getD sq.toNat 0) (1 * 2 ^ (sq + delta).toNat)))
def orderV (n d : Int) : List Int := if growing d then downKs (n - 1) (n - 1 - -1).toNat else rangeKs 0 (n - 0).toNat
def turnV (F R d : Int) (king : List Int) : List Int × List Int := (orderV (F * R) d).foldl (rayStep (innerV F R d) (deltaV F d)) (List.replicate (F * R).toNat 0, king)
noncomputable def kingAt (F R : Int) : Nat → List Int
  | 0 => List.replicate (F * R).toNat 0
  | d + 1 => (turnV F R d (kingAt F R d)).2
noncomputable def rayTab (F R : Int) (d : Nat) : List Int := (turnV F R d (kingAt F R d)).1
theorem rayStep_len (inner delta : Int) (st : List Int × List Int) (sq : Int) : (rayStep inner delta st sq).1.length = st.1.length ∧ (rayStep inner delta st sq).2.length = st.2.length := by
  unfold rayStep
  split
  · exact ⟨rfl, rfl⟩
  · exact ⟨List.length_set .., List.length_set ..⟩
theorem rayFold_len (inner delta : Int) : ∀ (l : List Int) (st : List Int × List Int), (l.foldl (rayStep inner delta) st).1.length = st.1.length ∧ (l.foldl (rayStep inner delta) st).2.length = st.2.length
  | [], _ => ⟨rfl, rfl⟩
  | q :: r, st => by
    have h1 := rayFold_len inner delta r (rayStep inner delta st q)
    have h2 := rayStep_len inner delta st q
    rw [List.foldl_cons]
    exact ⟨h1.1.trans h2.1, h1.2.trans h2.2⟩
theorem kingAt_len (F R : Int) : ∀ d, (kingAt F R d).length = (F * R).toNat
  | 0 => List.length_replicate ..
  | d + 1 => (rayFold_len _ _ _ _).2.trans (kingAt_len F R d)
theorem rayTab_len (F R : Int) (d : Nat) : (rayTab F R d).length = (F * R).toNat := (rayFold_len _ _ _ _).1.trans (List.length_replicate ..)
def goals_ok (F R : Int) : Bool := (List.range 8).all fun d => (List.range (F * R).toNat).all fun q => Builtin.bitAnd ((innerV F R d).fdiv (2 ^ (q : Int).toNat)) 1 == 0 || (decide (0 ≤ (q : Int) + deltaV F d) && decide ((q : Int) + deltaV F d < F * R))
theorem goals_in {F R d q : Int} (hF : 3 ≤ F ∧ F ≤ 6) (hR : 3 ≤ R ∧ R ≤ 6) (h0 : 0 ≤ d) (h8 : d < 8) (q0 : 0 ≤ q) (q1 : q < F * R) (h : Builtin.bitAnd ((innerV F R d).fdiv (2 ^ q.toNat)) 1 ≠ 0) : 0 ≤ q + deltaV F d ∧ q + deltaV F d < F * R := by
  have hk : goals_ok F R = true := by
    rcases shapes hF with rfl | rfl | rfl | rfl <;> rcases shapes hR with rfl | rfl | rfl | rfl <;> decide +kernel
  have h1 := List.all_eq_true.mp hk d.toNat (List.mem_range.mpr (by omega))
  have h2 := List.all_eq_true.mp h1 q.toNat (List.mem_range.mpr (by omega))
  rw [Int.toNat_of_nonneg h0, Int.toNat_of_nonneg q0] at h2
  simp only [Bool.or_eq_true, beq_iff_eq, Bool.and_eq_true, decide_eq_true_eq] at h2
  exact h2.resolve_left h

theorem stepF_item {w : World} {A : Around} {E : Value → Shared → Prop} {s : Shared} {h₀ : Heap} {L : Addr} {m : Str → Option Value} {value slice : PySem.Expr} {d : Int} {u : Tok} {Q : Value → Shared → Prop} (F : Fr h₀ L s.heap m) (X : (hd.heap_39 w.params).In h₀) (h0 : 0 ≤ d) (h8 : d < 8) (h : ∀ t, Q (.int (stepF d) t) s)
    (hs : ∀ d : Int, subscripted slice false (.ref 35) (.int d u) = operate [.ref 35, .int d u] (getItem (.ref 35) (.int d u))) :
    wpAny (model PySem.Challenge.rw_tg0014_01.row.toRowW.1 w) A (subscriptTail value slice (.ref 35) (.int d u)) Q E s := by
  revert X; k_fill; intro X
  have hc := dirs h0 h8
  rcases hc with rfl | rfl | rfl | rfl | rfl | rfl | rfl | rfl
  all_goals (refine' topTup_K F X ?l ?a ?b ?c ?d (h _) (hs _); (case l => k_is); (case a => decide); (case b => decide); (case c => rfl); (case d => rfl))
theorem stepR_item {w : World} {A : Around} {E : Value → Shared → Prop} {s : Shared} {h₀ : Heap} {L : Addr} {m : Str → Option Value} {value slice : PySem.Expr} {d : Int} {u : Tok} {Q : Value → Shared → Prop} (F : Fr h₀ L s.heap m) (X : (hd.heap_39 w.params).In h₀) (h0 : 0 ≤ d) (h8 : d < 8) (h : ∀ t, Q (.int (stepR d) t) s)
    (hs : ∀ d : Int, subscripted slice false (.ref 36) (.int d u) = operate [.ref 36, .int d u] (getItem (.ref 36) (.int d u))) :
    wpAny (model PySem.Challenge.rw_tg0014_01.row.toRowW.1 w) A (subscriptTail value slice (.ref 36) (.int d u)) Q E s := by
  revert X; k_fill; intro X
  have hc := dirs h0 h8
  rcases hc with rfl | rfl | rfl | rfl | rfl | rfl | rfl | rfl
  all_goals (refine' topTup_K F X ?l ?a ?b ?c ?d (h _) (hs _); (case l => k_is); (case a => decide); (case b => decide); (case c => rfl); (case d => rfl))
theorem stepF_small {d : Int} (h0 : 0 ≤ d) (h8 : d < 8) : -1 ≤ stepF d ∧ stepF d ≤ 1 ∧ -1 ≤ stepR d ∧ stepR d ≤ 1 := by
  have hc := dirs h0 h8
  rcases hc with rfl | rfl | rfl | rfl | rfl | rfl | rfl | rfl <;> decide

/-- what holds between the directions -/
def RayInv (g kA rA I : Addr) (rest : List (Addr × Obj)) (F R : Int) (i : Nat) (m : Str → Option Value) (news : List (Addr × Obj)) : Prop :=
  ∃ (m₁ : Str → Option Value) (refs : List Value) (nr : Nat) (kv : List Value) (kc : Nat) (rl : List (Addr × Obj)),
    m = (fun y => if y = Str.ofString "geo" then some (.ref g) else m₁ y) ∧ news = (rA, listOf refs.toArray nr) :: (kA, listOf kv.toArray kc) :: (rl ++ rest) ∧ refs.length = i ∧ IntsAre kv (kingAt F R i) ∧
    (∀ p ∈ rl ++ rest, p.1 ≠ rA) ∧ (∀ p ∈ rl ++ rest, p.1 ≠ kA) ∧ (∀ p ∈ rl ++ rest, p.1 ≠ I) ∧
    ∀ j, j < i → ∃ (a : Addr) (v : List Value) (n : Nat), refs[j]? = some (.ref a) ∧ (a, listOf v.toArray n) ∈ rl ∧ IntsAre v (rayTab F R j)
theorem rayInv0 {g kA rA I : Addr} {rest : List (Addr × Obj)} {F R : Int} {m : Str → Option Value} {cr kc : Nat} {kv : List Value} (hm : m (Str.ofString "geo") = some (.ref g)) (hk : IntsAre kv (kingAt F R 0)) (a1 : ∀ p ∈ rest, p.1 ≠ rA) (a2 : ∀ p ∈ rest, p.1 ≠ kA) (a3 : ∀ p ∈ rest, p.1 ≠ I) :
    RayInv g kA rA I rest F R 0 m ((rA, listOf #[] cr) :: (kA, listOf kv.toArray kc) :: rest) := by
  refine ⟨m, [], cr, kv, kc, [], ?_, rfl, rfl, hk, a1, a2, a3, fun j hj => absurd hj (Nat.not_lt_zero j)⟩
  funext y
  by_cases h : y = Str.ofString "geo"
  · rw [if_pos h, h, hm]
  · rw [if_neg h]

/-- a witness of P, if there is one -/
theorem th {T : Type} [h : Nonempty T] (P : T → Prop) : Nonempty {x : T // (∃ y, P y) → P x} := by
  by_cases q : ∃ y, P y
  · obtain ⟨y, hy⟩ := q
    exact ⟨⟨y, fun _ => hy⟩⟩
  · exact h.elim fun x => ⟨⟨x, fun k => absurd k q⟩⟩
noncomputable def pick {T : Type} [Nonempty T] (P : T → Prop) : T := (Classical.choice (th P)).1
theorem pick_spec {T : Type} [Nonempty T] {P : T → Prop} (h : ∃ y, P y) : P (pick P) := (Classical.choice (th P)).2 h
/-- a statement about all x follows from itself at the one x that would break it -/
theorem epsA {α : Type} [Nonempty α] {P : α → Prop} (h : P (pick fun x => ¬ P x)) : ∀ x, P x := fun x => Classical.byContradiction fun q => pick_spec (P := fun x => ¬ P x) ⟨x, q⟩ h
theorem cur2 {α β : Type} {P : α × β → Prop} (h : ∀ a b, P (a, b)) : ∀ x, P x := fun x => h x.1 x.2
theorem cur4 {α β γ δ : Type} {P : α × β × γ × δ → Prop} (h : ∀ a b c d, P (a, b, c, d)) : ∀ x, P x := fun x => h x.1 x.2.1 x.2.2.1 x.2.2.2
def At1 {α : Type} (P : α → Prop) (x : α) : Prop := P x
def All1 {α : Type} (P : α → Prop) : Prop := ∀ x, At1 P x
noncomputable def ep1 {α : Type} [Nonempty α] (P : α → Prop) : α := pick fun x => ¬ P x
theorem eps1 {α : Type} [Nonempty α] {P : α → Prop} (h : At1 P (ep1 P)) : ∀ x, P x :=
  fun x => epsA (P := fun x : α => P x) h x
noncomputable def wi1 {α : Type} [Nonempty α] (P : α → Prop) : α := pick fun x => P x
theorem exs1 {α : Type} [Nonempty α] {P : α → Prop} {G : Prop} (h : ∃ x, P x) (k : At1 (fun x => P x → G) (wi1 P)) : G :=
  k (by
    obtain ⟨x, h⟩ := h
    exact pick_spec (P := fun x : α => P x) ⟨x, h⟩)
def At2 {α β : Type} (P : α → β → Prop) (x : α) (y : β) : Prop := P x y
def All2 {α β : Type} (P : α → β → Prop) : Prop := ∀ x y, At2 P x y
noncomputable def ep2 {α β : Type} [Nonempty α] [Nonempty β] (P : α → β → Prop) : α × β := pick fun x => ¬ P x.1 x.2
theorem eps2 {α β : Type} [Nonempty α] [Nonempty β] {P : α → β → Prop} (h : At2 P (ep2 P).1 (ep2 P).2) : ∀ x y, P x y :=
  fun x y => epsA (P := fun x : α × β => P x.1 x.2) h (x, y)
noncomputable def wi2 {α β : Type} [Nonempty α] [Nonempty β] (P : α → β → Prop) : α × β := pick fun x => P x.1 x.2
theorem exs2 {α β : Type} [Nonempty α] [Nonempty β] {P : α → β → Prop} {G : Prop} (h : ∃ x y, P x y) (k : At2 (fun x y => P x y → G) (wi2 P).1 (wi2 P).2) : G :=
  k (by
    obtain ⟨x, y, h⟩ := h
    exact pick_spec (P := fun x : α × β => P x.1 x.2) ⟨(x, y), h⟩)
def At3 {α β γ : Type} (P : α → β → γ → Prop) (x : α) (y : β) (z : γ) : Prop := P x y z
def All3 {α β γ : Type} (P : α → β → γ → Prop) : Prop := ∀ x y z, At3 P x y z
noncomputable def ep3 {α β γ : Type} [Nonempty α] [Nonempty β] [Nonempty γ] (P : α → β → γ → Prop) : α × β × γ := pick fun x => ¬ P x.1 x.2.1 x.2.2
theorem eps3 {α β γ : Type} [Nonempty α] [Nonempty β] [Nonempty γ] {P : α → β → γ → Prop} (h : At3 P (ep3 P).1 (ep3 P).2.1 (ep3 P).2.2) : ∀ x y z, P x y z :=
  fun x y z => epsA (P := fun x : α × β × γ => P x.1 x.2.1 x.2.2) h (x, y, z)
noncomputable def wi3 {α β γ : Type} [Nonempty α] [Nonempty β] [Nonempty γ] (P : α → β → γ → Prop) : α × β × γ := pick fun x => P x.1 x.2.1 x.2.2
theorem exs3 {α β γ : Type} [Nonempty α] [Nonempty β] [Nonempty γ] {P : α → β → γ → Prop} {G : Prop} (h : ∃ x y z, P x y z) (k : At3 (fun x y z => P x y z → G) (wi3 P).1 (wi3 P).2.1 (wi3 P).2.2) : G :=
  k (by
    obtain ⟨x, y, z, h⟩ := h
    exact pick_spec (P := fun x : α × β × γ => P x.1 x.2.1 x.2.2) ⟨(x, y, z), h⟩)
def At4 {α β γ δ : Type} (P : α → β → γ → δ → Prop) (x : α) (y : β) (z : γ) (v : δ) : Prop := P x y z v
def All4 {α β γ δ : Type} (P : α → β → γ → δ → Prop) : Prop := ∀ x y z v, At4 P x y z v
noncomputable def ep4 {α β γ δ : Type} [Nonempty α] [Nonempty β] [Nonempty γ] [Nonempty δ] (P : α → β → γ → δ → Prop) : α × β × γ × δ := pick fun x => ¬ P x.1 x.2.1 x.2.2.1 x.2.2.2
theorem eps4 {α β γ δ : Type} [Nonempty α] [Nonempty β] [Nonempty γ] [Nonempty δ] {P : α → β → γ → δ → Prop} (h : At4 P (ep4 P).1 (ep4 P).2.1 (ep4 P).2.2.1 (ep4 P).2.2.2) : ∀ x y z v, P x y z v :=
  fun x y z v => epsA (P := fun x : α × β × γ × δ => P x.1 x.2.1 x.2.2.1 x.2.2.2) h (x, y, z, v)
def At5 {α β γ δ ε : Type} (P : α → β → γ → δ → ε → Prop) (x : α) (y : β) (z : γ) (v : δ) (u : ε) : Prop := P x y z v u
def All5 {α β γ δ ε : Type} (P : α → β → γ → δ → ε → Prop) : Prop := ∀ x y z v u, At5 P x y z v u
noncomputable def ep5 {α β γ δ ε : Type} [Nonempty α] [Nonempty β] [Nonempty γ] [Nonempty δ] [Nonempty ε] (P : α → β → γ → δ → ε → Prop) : α × β × γ × δ × ε := pick fun x => ¬ P x.1 x.2.1 x.2.2.1 x.2.2.2.1 x.2.2.2.2
theorem eps5 {α β γ δ ε : Type} [Nonempty α] [Nonempty β] [Nonempty γ] [Nonempty δ] [Nonempty ε] {P : α → β → γ → δ → ε → Prop} (h : At5 P (ep5 P).1 (ep5 P).2.1 (ep5 P).2.2.1 (ep5 P).2.2.2.1 (ep5 P).2.2.2.2) : ∀ x y z v u, P x y z v u :=
  fun x y z v u => epsA (P := fun x : α × β × γ × δ × ε => P x.1 x.2.1 x.2.2.1 x.2.2.2.1 x.2.2.2.2) h (x, y, z, v, u)
noncomputable def wi5 {α β γ δ ε : Type} [Nonempty α] [Nonempty β] [Nonempty γ] [Nonempty δ] [Nonempty ε] (P : α → β → γ → δ → ε → Prop) : α × β × γ × δ × ε := pick fun x => P x.1 x.2.1 x.2.2.1 x.2.2.2.1 x.2.2.2.2
theorem exs5 {α β γ δ ε : Type} [Nonempty α] [Nonempty β] [Nonempty γ] [Nonempty δ] [Nonempty ε] {P : α → β → γ → δ → ε → Prop} {G : Prop} (h : ∃ x y z v u, P x y z v u) (k : At5 (fun x y z v u => P x y z v u → G) (wi5 P).1 (wi5 P).2.1 (wi5 P).2.2.1 (wi5 P).2.2.2.1 (wi5 P).2.2.2.2) : G :=
  k (by
    obtain ⟨x, y, z, v, u, h⟩ := h
    exact pick_spec (P := fun x : α × β × γ × δ × ε => P x.1 x.2.1 x.2.2.1 x.2.2.2.1 x.2.2.2.2) ⟨(x, y, z, v, u), h⟩)
def At6 {α β γ δ ε ζ : Type} (P : α → β → γ → δ → ε → ζ → Prop) (x : α) (y : β) (z : γ) (v : δ) (u : ε) (t : ζ) : Prop := P x y z v u t
def All6 {α β γ δ ε ζ : Type} (P : α → β → γ → δ → ε → ζ → Prop) : Prop := ∀ x y z v u t, At6 P x y z v u t
noncomputable def ep6 {α β γ δ ε ζ : Type} [Nonempty α] [Nonempty β] [Nonempty γ] [Nonempty δ] [Nonempty ε] [Nonempty ζ] (P : α → β → γ → δ → ε → ζ → Prop) : α × β × γ × δ × ε × ζ := pick fun x => ¬ P x.1 x.2.1 x.2.2.1 x.2.2.2.1 x.2.2.2.2.1 x.2.2.2.2.2
theorem eps6 {α β γ δ ε ζ : Type} [Nonempty α] [Nonempty β] [Nonempty γ] [Nonempty δ] [Nonempty ε] [Nonempty ζ] {P : α → β → γ → δ → ε → ζ → Prop} (h : At6 P (ep6 P).1 (ep6 P).2.1 (ep6 P).2.2.1 (ep6 P).2.2.2.1 (ep6 P).2.2.2.2.1 (ep6 P).2.2.2.2.2) : ∀ x y z v u t, P x y z v u t :=
  fun x y z v u t => epsA (P := fun x : α × β × γ × δ × ε × ζ => P x.1 x.2.1 x.2.2.1 x.2.2.2.1 x.2.2.2.2.1 x.2.2.2.2.2) h (x, y, z, v, u, t)
noncomputable def wi6 {α β γ δ ε ζ : Type} [Nonempty α] [Nonempty β] [Nonempty γ] [Nonempty δ] [Nonempty ε] [Nonempty ζ] (P : α → β → γ → δ → ε → ζ → Prop) : α × β × γ × δ × ε × ζ := pick fun x => P x.1 x.2.1 x.2.2.1 x.2.2.2.1 x.2.2.2.2.1 x.2.2.2.2.2
theorem exs6 {α β γ δ ε ζ : Type} [Nonempty α] [Nonempty β] [Nonempty γ] [Nonempty δ] [Nonempty ε] [Nonempty ζ] {P : α → β → γ → δ → ε → ζ → Prop} {G : Prop} (h : ∃ x y z v u t, P x y z v u t) (k : At6 (fun x y z v u t => P x y z v u t → G) (wi6 P).1 (wi6 P).2.1 (wi6 P).2.2.1 (wi6 P).2.2.2.1 (wi6 P).2.2.2.2.1 (wi6 P).2.2.2.2.2) : G :=
  k (by
    obtain ⟨x, y, z, v, u, t, h⟩ := h
    exact pick_spec (P := fun x : α × β × γ × δ × ε × ζ => P x.1 x.2.1 x.2.2.1 x.2.2.2.1 x.2.2.2.2.1 x.2.2.2.2.2) ⟨(x, y, z, v, u, t), h⟩)
def At7 {α β γ δ ε ζ η : Type} (P : α → β → γ → δ → ε → ζ → η → Prop) (x : α) (y : β) (z : γ) (v : δ) (u : ε) (t : ζ) (a : η) : Prop := P x y z v u t a
def All7 {α β γ δ ε ζ η : Type} (P : α → β → γ → δ → ε → ζ → η → Prop) : Prop := ∀ x y z v u t a, At7 P x y z v u t a
noncomputable def ep7 {α β γ δ ε ζ η : Type} [Nonempty α] [Nonempty β] [Nonempty γ] [Nonempty δ] [Nonempty ε] [Nonempty ζ] [Nonempty η] (P : α → β → γ → δ → ε → ζ → η → Prop) : α × β × γ × δ × ε × ζ × η := pick fun x => ¬ P x.1 x.2.1 x.2.2.1 x.2.2.2.1 x.2.2.2.2.1 x.2.2.2.2.2.1 x.2.2.2.2.2.2
theorem eps7 {α β γ δ ε ζ η : Type} [Nonempty α] [Nonempty β] [Nonempty γ] [Nonempty δ] [Nonempty ε] [Nonempty ζ] [Nonempty η] {P : α → β → γ → δ → ε → ζ → η → Prop} (h : At7 P (ep7 P).1 (ep7 P).2.1 (ep7 P).2.2.1 (ep7 P).2.2.2.1 (ep7 P).2.2.2.2.1 (ep7 P).2.2.2.2.2.1 (ep7 P).2.2.2.2.2.2) : ∀ x y z v u t a, P x y z v u t a :=
  fun x y z v u t a => epsA (P := fun x : α × β × γ × δ × ε × ζ × η => P x.1 x.2.1 x.2.2.1 x.2.2.2.1 x.2.2.2.2.1 x.2.2.2.2.2.1 x.2.2.2.2.2.2) h (x, y, z, v, u, t, a)
def At8 {α β γ δ ε ζ η θ : Type} (P : α → β → γ → δ → ε → ζ → η → θ → Prop) (x : α) (y : β) (z : γ) (v : δ) (u : ε) (t : ζ) (a : η) (b : θ) : Prop := P x y z v u t a b
def All8 {α β γ δ ε ζ η θ : Type} (P : α → β → γ → δ → ε → ζ → η → θ → Prop) : Prop := ∀ x y z v u t a b, At8 P x y z v u t a b
noncomputable def ep8 {α β γ δ ε ζ η θ : Type} [Nonempty α] [Nonempty β] [Nonempty γ] [Nonempty δ] [Nonempty ε] [Nonempty ζ] [Nonempty η] [Nonempty θ] (P : α → β → γ → δ → ε → ζ → η → θ → Prop) : α × β × γ × δ × ε × ζ × η × θ := pick fun x => ¬ P x.1 x.2.1 x.2.2.1 x.2.2.2.1 x.2.2.2.2.1 x.2.2.2.2.2.1 x.2.2.2.2.2.2.1 x.2.2.2.2.2.2.2
theorem eps8 {α β γ δ ε ζ η θ : Type} [Nonempty α] [Nonempty β] [Nonempty γ] [Nonempty δ] [Nonempty ε] [Nonempty ζ] [Nonempty η] [Nonempty θ] {P : α → β → γ → δ → ε → ζ → η → θ → Prop} (h : At8 P (ep8 P).1 (ep8 P).2.1 (ep8 P).2.2.1 (ep8 P).2.2.2.1 (ep8 P).2.2.2.2.1 (ep8 P).2.2.2.2.2.1 (ep8 P).2.2.2.2.2.2.1 (ep8 P).2.2.2.2.2.2.2) : ∀ x y z v u t a b, P x y z v u t a b :=
  fun x y z v u t a b => epsA (P := fun x : α × β × γ × δ × ε × ζ × η × θ => P x.1 x.2.1 x.2.2.1 x.2.2.2.1 x.2.2.2.2.1 x.2.2.2.2.2.1 x.2.2.2.2.2.2.1 x.2.2.2.2.2.2.2) h (x, y, z, v, u, t, a, b)
def At9 {α β γ δ ε ζ η θ ι : Type} (P : α → β → γ → δ → ε → ζ → η → θ → ι → Prop) (x : α) (y : β) (z : γ) (v : δ) (u : ε) (t : ζ) (a : η) (b : θ) (c : ι) : Prop := P x y z v u t a b c
def All9 {α β γ δ ε ζ η θ ι : Type} (P : α → β → γ → δ → ε → ζ → η → θ → ι → Prop) : Prop := ∀ x y z v u t a b c, At9 P x y z v u t a b c
noncomputable def ep9 {α β γ δ ε ζ η θ ι : Type} [Nonempty α] [Nonempty β] [Nonempty γ] [Nonempty δ] [Nonempty ε] [Nonempty ζ] [Nonempty η] [Nonempty θ] [Nonempty ι] (P : α → β → γ → δ → ε → ζ → η → θ → ι → Prop) : α × β × γ × δ × ε × ζ × η × θ × ι := pick fun x => ¬ P x.1 x.2.1 x.2.2.1 x.2.2.2.1 x.2.2.2.2.1 x.2.2.2.2.2.1 x.2.2.2.2.2.2.1 x.2.2.2.2.2.2.2.1 x.2.2.2.2.2.2.2.2
theorem eps9 {α β γ δ ε ζ η θ ι : Type} [Nonempty α] [Nonempty β] [Nonempty γ] [Nonempty δ] [Nonempty ε] [Nonempty ζ] [Nonempty η] [Nonempty θ] [Nonempty ι] {P : α → β → γ → δ → ε → ζ → η → θ → ι → Prop} (h : At9 P (ep9 P).1 (ep9 P).2.1 (ep9 P).2.2.1 (ep9 P).2.2.2.1 (ep9 P).2.2.2.2.1 (ep9 P).2.2.2.2.2.1 (ep9 P).2.2.2.2.2.2.1 (ep9 P).2.2.2.2.2.2.2.1 (ep9 P).2.2.2.2.2.2.2.2) : ∀ x y z v u t a b c, P x y z v u t a b c :=
  fun x y z v u t a b c => epsA (P := fun x : α × β × γ × δ × ε × ζ × η × θ × ι => P x.1 x.2.1 x.2.2.1 x.2.2.2.1 x.2.2.2.2.1 x.2.2.2.2.2.1 x.2.2.2.2.2.2.1 x.2.2.2.2.2.2.2.1 x.2.2.2.2.2.2.2.2) h (x, y, z, v, u, t, a, b, c)
def At11 {α β γ δ ε ζ η θ ι κ μ : Type} (P : α → β → γ → δ → ε → ζ → η → θ → ι → κ → μ → Prop) (x : α) (y : β) (z : γ) (v : δ) (u : ε) (t : ζ) (a : η) (b : θ) (c : ι) (d : κ) (e : μ) : Prop := P x y z v u t a b c d e
def All11 {α β γ δ ε ζ η θ ι κ μ : Type} (P : α → β → γ → δ → ε → ζ → η → θ → ι → κ → μ → Prop) : Prop := ∀ x y z v u t a b c d e, At11 P x y z v u t a b c d e
noncomputable def ep11 {α β γ δ ε ζ η θ ι κ μ : Type} [Nonempty α] [Nonempty β] [Nonempty γ] [Nonempty δ] [Nonempty ε] [Nonempty ζ] [Nonempty η] [Nonempty θ] [Nonempty ι] [Nonempty κ] [Nonempty μ] (P : α → β → γ → δ → ε → ζ → η → θ → ι → κ → μ → Prop) : α × β × γ × δ × ε × ζ × η × θ × ι × κ × μ := pick fun x => ¬ P x.1 x.2.1 x.2.2.1 x.2.2.2.1 x.2.2.2.2.1 x.2.2.2.2.2.1 x.2.2.2.2.2.2.1 x.2.2.2.2.2.2.2.1 x.2.2.2.2.2.2.2.2.1 x.2.2.2.2.2.2.2.2.2.1 x.2.2.2.2.2.2.2.2.2.2
theorem eps11 {α β γ δ ε ζ η θ ι κ μ : Type} [Nonempty α] [Nonempty β] [Nonempty γ] [Nonempty δ] [Nonempty ε] [Nonempty ζ] [Nonempty η] [Nonempty θ] [Nonempty ι] [Nonempty κ] [Nonempty μ] {P : α → β → γ → δ → ε → ζ → η → θ → ι → κ → μ → Prop} (h : At11 P (ep11 P).1 (ep11 P).2.1 (ep11 P).2.2.1 (ep11 P).2.2.2.1 (ep11 P).2.2.2.2.1 (ep11 P).2.2.2.2.2.1 (ep11 P).2.2.2.2.2.2.1 (ep11 P).2.2.2.2.2.2.2.1 (ep11 P).2.2.2.2.2.2.2.2.1 (ep11 P).2.2.2.2.2.2.2.2.2.1 (ep11 P).2.2.2.2.2.2.2.2.2.2) : ∀ x y z v u t a b c d e, P x y z v u t a b c d e :=
  fun x y z v u t a b c d e => epsA (P := fun x : α × β × γ × δ × ε × ζ × η × θ × ι × κ × μ => P x.1 x.2.1 x.2.2.1 x.2.2.2.1 x.2.2.2.2.1 x.2.2.2.2.2.1 x.2.2.2.2.2.2.1 x.2.2.2.2.2.2.2.1 x.2.2.2.2.2.2.2.2.1 x.2.2.2.2.2.2.2.2.2.1 x.2.2.2.2.2.2.2.2.2.2) h (x, y, z, v, u, t, a, b, c, d, e)
def At12 {α β γ δ ε ζ η θ ι κ μ ν : Type} (P : α → β → γ → δ → ε → ζ → η → θ → ι → κ → μ → ν → Prop) (x : α) (y : β) (z : γ) (v : δ) (u : ε) (t : ζ) (a : η) (b : θ) (c : ι) (d : κ) (e : μ) (f : ν) : Prop := P x y z v u t a b c d e f
def All12 {α β γ δ ε ζ η θ ι κ μ ν : Type} (P : α → β → γ → δ → ε → ζ → η → θ → ι → κ → μ → ν → Prop) : Prop := ∀ x y z v u t a b c d e f, At12 P x y z v u t a b c d e f
noncomputable def ep12 {α β γ δ ε ζ η θ ι κ μ ν : Type} [Nonempty α] [Nonempty β] [Nonempty γ] [Nonempty δ] [Nonempty ε] [Nonempty ζ] [Nonempty η] [Nonempty θ] [Nonempty ι] [Nonempty κ] [Nonempty μ] [Nonempty ν] (P : α → β → γ → δ → ε → ζ → η → θ → ι → κ → μ → ν → Prop) : α × β × γ × δ × ε × ζ × η × θ × ι × κ × μ × ν := pick fun x => ¬ P x.1 x.2.1 x.2.2.1 x.2.2.2.1 x.2.2.2.2.1 x.2.2.2.2.2.1 x.2.2.2.2.2.2.1 x.2.2.2.2.2.2.2.1 x.2.2.2.2.2.2.2.2.1 x.2.2.2.2.2.2.2.2.2.1 x.2.2.2.2.2.2.2.2.2.2.1 x.2.2.2.2.2.2.2.2.2.2.2
theorem eps12 {α β γ δ ε ζ η θ ι κ μ ν : Type} [Nonempty α] [Nonempty β] [Nonempty γ] [Nonempty δ] [Nonempty ε] [Nonempty ζ] [Nonempty η] [Nonempty θ] [Nonempty ι] [Nonempty κ] [Nonempty μ] [Nonempty ν] {P : α → β → γ → δ → ε → ζ → η → θ → ι → κ → μ → ν → Prop} (h : At12 P (ep12 P).1 (ep12 P).2.1 (ep12 P).2.2.1 (ep12 P).2.2.2.1 (ep12 P).2.2.2.2.1 (ep12 P).2.2.2.2.2.1 (ep12 P).2.2.2.2.2.2.1 (ep12 P).2.2.2.2.2.2.2.1 (ep12 P).2.2.2.2.2.2.2.2.1 (ep12 P).2.2.2.2.2.2.2.2.2.1 (ep12 P).2.2.2.2.2.2.2.2.2.2.1 (ep12 P).2.2.2.2.2.2.2.2.2.2.2) : ∀ x y z v u t a b c d e f, P x y z v u t a b c d e f :=
  fun x y z v u t a b c d e f => epsA (P := fun x : α × β × γ × δ × ε × ζ × η × θ × ι × κ × μ × ν => P x.1 x.2.1 x.2.2.1 x.2.2.2.1 x.2.2.2.2.1 x.2.2.2.2.2.1 x.2.2.2.2.2.2.1 x.2.2.2.2.2.2.2.1 x.2.2.2.2.2.2.2.2.1 x.2.2.2.2.2.2.2.2.2.1 x.2.2.2.2.2.2.2.2.2.2.1 x.2.2.2.2.2.2.2.2.2.2.2) h (x, y, z, v, u, t, a, b, c, d, e, f)
set_option genInjectivity false in
set_option genSizeOf false in
/-- what stands ahead of each contract -/
structure Ctx where
  w : World
  p : Program
  loose : List Str
  mean : ExcName → Option Value
  mg : Str → Option Value
  mb : Str → Option Value
  dp : Nat
  un : Nat
  gd : Option (List Code)
  cn : Str
  cs : Scope
  a : Addr
  ccd : Value
  cl : List (Str × Addr)
  outer : List Env
  A₀ : Around
  base : Heap
  h₀ : Heap
  L : Addr
  m : Str → Option Value
  s : Shared
  Q : Value → Shared → Prop
  E : Value → Shared → Prop
  news : List (Addr × Obj)
  g : Addr
  F : Int
  R : Int
  T : Tabs
  dg : Addr
  es : List DictEntry
  ng : Nat
theorem ctx_ne : Nonempty Ctx := ⟨⟨⟨fun _ _ => 0, ⟨fun _ => 0, fun _ => 0, fun t => t, fun _ => 0, fun _ _ => 0, fun _ => false, fun _ => 0, .refcount, .text, fun _ => 0, fun _ => none, fun _ => false, fun _ _ _ => true, fun _ _ _ => false, true, fun _ => false, fun _ => none, fun _ => none, fun _ _ _ => 0, fun _ _ => none, fun _ => none, fun _ => (0, false, ⟨#[]⟩), fun _ => none, fun d => d, fun _ => false⟩⟩, default, [], fun _ => none, fun _ => none, fun _ => none, 0, 0, none, default, default, 0, default, [], [], {}, {}, {}, 0, fun _ => none, {}, fun _ _ => True, fun _ _ => True, [], 0, 0, 0, ⟨fun _ => [], [], [], [], []⟩, 0, [], 0⟩⟩
/-- the bundle that breaks P -/
noncomputable def ep_c {α : Type} [Nonempty α] (P : Ctx × α → Prop) : Ctx × α := @pick _ ⟨(Classical.choice ctx_ne, Classical.choice inferInstance)⟩ fun x => ¬ P x
theorem eps_c {α : Type} [Nonempty α] {P : Ctx × α → Prop} (h : P (ep_c P)) : ∀ x, P x := @epsA _ ⟨(Classical.choice ctx_ne, Classical.choice inferInstance)⟩ P h

theorem shared_ne : Nonempty Shared := ⟨{}⟩
theorem world_ne : Nonempty World := ⟨(Classical.choice ctx_ne).w⟩
theorem law_ne : Nonempty (World × Shared × Shared × (Str → Option Value) × (Str → Option Value) × Addr × Obj × Value × Value × Value × Addr × Obj × Addr × Addr × (List Int) × (List Addr) × (List Addr) × Addr × (List Value) × (List Addr) × Heap) := by
  haveI := shared_ne
  haveI := world_ne
  exact inferInstance
def At21 (P : World → Shared → Shared → (Str → Option Value) → (Str → Option Value) → Addr → Obj → Value → Value → Value → Addr → Obj → Addr → Addr → (List Int) → (List Addr) → (List Addr) → Addr → (List Value) → (List Addr) → Heap → Prop) (x0 : World) (x1 : Shared) (x2 : Shared) (x3 : (Str → Option Value)) (x4 : (Str → Option Value)) (x5 : Addr) (x6 : Obj) (x7 : Value) (x8 : Value) (x9 : Value) (x10 : Addr) (x11 : Obj) (x12 : Addr) (x13 : Addr) (x14 : (List Int)) (x15 : (List Addr)) (x16 : (List Addr)) (x17 : Addr) (x18 : (List Value)) (x19 : (List Addr)) (x20 : Heap) : Prop := P x0 x1 x2 x3 x4 x5 x6 x7 x8 x9 x10 x11 x12 x13 x14 x15 x16 x17 x18 x19 x20
def All21 (P : World → Shared → Shared → (Str → Option Value) → (Str → Option Value) → Addr → Obj → Value → Value → Value → Addr → Obj → Addr → Addr → (List Int) → (List Addr) → (List Addr) → Addr → (List Value) → (List Addr) → Heap → Prop) : Prop := ∀ x0 x1 x2 x3 x4 x5 x6 x7 x8 x9 x10 x11 x12 x13 x14 x15 x16 x17 x18 x19 x20, At21 P x0 x1 x2 x3 x4 x5 x6 x7 x8 x9 x10 x11 x12 x13 x14 x15 x16 x17 x18 x19 x20
noncomputable def ep21 (P : World → Shared → Shared → (Str → Option Value) → (Str → Option Value) → Addr → Obj → Value → Value → Value → Addr → Obj → Addr → Addr → (List Int) → (List Addr) → (List Addr) → Addr → (List Value) → (List Addr) → Heap → Prop) : World × Shared × Shared × (Str → Option Value) × (Str → Option Value) × Addr × Obj × Value × Value × Value × Addr × Obj × Addr × Addr × (List Int) × (List Addr) × (List Addr) × Addr × (List Value) × (List Addr) × Heap := @pick _ law_ne fun x => ¬ P x.1 x.2.1 x.2.2.1 x.2.2.2.1 x.2.2.2.2.1 x.2.2.2.2.2.1 x.2.2.2.2.2.2.1 x.2.2.2.2.2.2.2.1 x.2.2.2.2.2.2.2.2.1 x.2.2.2.2.2.2.2.2.2.1 x.2.2.2.2.2.2.2.2.2.2.1 x.2.2.2.2.2.2.2.2.2.2.2.1 x.2.2.2.2.2.2.2.2.2.2.2.2.1 x.2.2.2.2.2.2.2.2.2.2.2.2.2.1 x.2.2.2.2.2.2.2.2.2.2.2.2.2.2.1 x.2.2.2.2.2.2.2.2.2.2.2.2.2.2.2.1 x.2.2.2.2.2.2.2.2.2.2.2.2.2.2.2.2.1 x.2.2.2.2.2.2.2.2.2.2.2.2.2.2.2.2.2.1 x.2.2.2.2.2.2.2.2.2.2.2.2.2.2.2.2.2.2.1 x.2.2.2.2.2.2.2.2.2.2.2.2.2.2.2.2.2.2.2.1 x.2.2.2.2.2.2.2.2.2.2.2.2.2.2.2.2.2.2.2.2
theorem eps21 {P : World → Shared → Shared → (Str → Option Value) → (Str → Option Value) → Addr → Obj → Value → Value → Value → Addr → Obj → Addr → Addr → (List Int) → (List Addr) → (List Addr) → Addr → (List Value) → (List Addr) → Heap → Prop} (h : At21 P (ep21 P).1 (ep21 P).2.1 (ep21 P).2.2.1 (ep21 P).2.2.2.1 (ep21 P).2.2.2.2.1 (ep21 P).2.2.2.2.2.1 (ep21 P).2.2.2.2.2.2.1 (ep21 P).2.2.2.2.2.2.2.1 (ep21 P).2.2.2.2.2.2.2.2.1 (ep21 P).2.2.2.2.2.2.2.2.2.1 (ep21 P).2.2.2.2.2.2.2.2.2.2.1 (ep21 P).2.2.2.2.2.2.2.2.2.2.2.1 (ep21 P).2.2.2.2.2.2.2.2.2.2.2.2.1 (ep21 P).2.2.2.2.2.2.2.2.2.2.2.2.2.1 (ep21 P).2.2.2.2.2.2.2.2.2.2.2.2.2.2.1 (ep21 P).2.2.2.2.2.2.2.2.2.2.2.2.2.2.2.1 (ep21 P).2.2.2.2.2.2.2.2.2.2.2.2.2.2.2.2.1 (ep21 P).2.2.2.2.2.2.2.2.2.2.2.2.2.2.2.2.2.1 (ep21 P).2.2.2.2.2.2.2.2.2.2.2.2.2.2.2.2.2.2.1 (ep21 P).2.2.2.2.2.2.2.2.2.2.2.2.2.2.2.2.2.2.2.1 (ep21 P).2.2.2.2.2.2.2.2.2.2.2.2.2.2.2.2.2.2.2.2) : ∀ x0 x1 x2 x3 x4 x5 x6 x7 x8 x9 x10 x11 x12 x13 x14 x15 x16 x17 x18 x19 x20, P x0 x1 x2 x3 x4 x5 x6 x7 x8 x9 x10 x11 x12 x13 x14 x15 x16 x17 x18 x19 x20 :=
  fun x0 x1 x2 x3 x4 x5 x6 x7 x8 x9 x10 x11 x12 x13 x14 x15 x16 x17 x18 x19 x20 => @epsA _ law_ne (fun x : World × Shared × Shared × (Str → Option Value) × (Str → Option Value) × Addr × Obj × Value × Value × Value × Addr × Obj × Addr × Addr × (List Int) × (List Addr) × (List Addr) × Addr × (List Value) × (List Addr) × Heap => P x.1 x.2.1 x.2.2.1 x.2.2.2.1 x.2.2.2.2.1 x.2.2.2.2.2.1 x.2.2.2.2.2.2.1 x.2.2.2.2.2.2.2.1 x.2.2.2.2.2.2.2.2.1 x.2.2.2.2.2.2.2.2.2.1 x.2.2.2.2.2.2.2.2.2.2.1 x.2.2.2.2.2.2.2.2.2.2.2.1 x.2.2.2.2.2.2.2.2.2.2.2.2.1 x.2.2.2.2.2.2.2.2.2.2.2.2.2.1 x.2.2.2.2.2.2.2.2.2.2.2.2.2.2.1 x.2.2.2.2.2.2.2.2.2.2.2.2.2.2.2.1 x.2.2.2.2.2.2.2.2.2.2.2.2.2.2.2.2.1 x.2.2.2.2.2.2.2.2.2.2.2.2.2.2.2.2.2.1 x.2.2.2.2.2.2.2.2.2.2.2.2.2.2.2.2.2.2.1 x.2.2.2.2.2.2.2.2.2.2.2.2.2.2.2.2.2.2.2.1 x.2.2.2.2.2.2.2.2.2.2.2.2.2.2.2.2.2.2.2.2) h (x0, x1, x2, x3, x4, x5, x6, x7, x8, x9, x10, x11, x12, x13, x14, x15, x16, x17, x18, x19, x20)

/-- the range object, as the ledger may bear it -/
def rangeO (a b c : Int) (t u v : Tok) : Obj := { cls := .type "range", dict := none, data := .fields #[.int a t, .int b u, .int c v], slots := #[] }
section
variable {prog : Program} {w : World} {A : Around} {E : Value → Shared → Prop} {s : Shared} {h₀ : Heap} {L : Addr} {m : Str → Option Value} {news : List (Addr × Obj)}
theorem range_news {h' : Heap} {a b c : Int} {t u v : Tok} (F : Fr h₀ L s.heap m) (hr : IsRange h' s.heap.objs.size a b c t u v) (N : News h₀ L h' news) : News h₀ L h' ((s.heap.objs.size, rangeO a b c t u v) :: news) := by
  intro p hp
  rcases List.mem_cons.mp hp with rfl | hp
  · exact ⟨hr, fun e => absurd F.ns.lt (by rw [← e]; exact Nat.lt_irrefl _), next_is_new F⟩
  · exact N p hp
theorem range1_led {Q : Value → Shared → Prop} {n : Int} {t : Tok} (F : Fr h₀ L s.heap m) (N : News h₀ L s.heap news)
    (h : ∀ r h' tk t₁ u₁ v₁, Fr h₀ L h' m → News h₀ L h' ((r, rangeO 0 n 1 t₁ u₁ v₁) :: news) → (∀ p ∈ news, p.1 < r) → Q (.ref r) { s with heap := h', toks := tk }) :
    wpAny (model prog w) A (call (.type "range") [.int n t]) Q E s :=
  range1_rows F N fun h' tk t₁ u₁ v₁ hr F' N' _ => h _ h' tk t₁ u₁ v₁ F' (range_news F hr N') fun p hp => Heap.lt_size (N p hp).1
theorem range3_led {Q : Value → Shared → Prop} {a b c : Int} {t u v : Tok} (F : Fr h₀ L s.heap m) (N : News h₀ L s.heap news) (hc : c ≠ 0) (hp : Builtin.divisionGoesByPylong (b - a) c = false)
    (h : ∀ r h' tk t₁ u₁ v₁, Fr h₀ L h' m → News h₀ L h' ((r, rangeO a b c t₁ u₁ v₁) :: news) → (∀ p ∈ news, p.1 < r) → Q (.ref r) { s with heap := h', toks := tk }) :
    wpAny (model prog w) A (call (.type "range") [.int a t, .int b u, .int c v]) Q E s :=
  range3_rows F N hc (fun h' tk t₁ u₁ v₁ hr F' N' _ => h _ h' tk t₁ u₁ v₁ F' (range_news F hr N') (fun p hp => Heap.lt_size (N p hp).1)) (Or.inl hp)
end

theorem drop_b {h₀ h : Heap} {L : Addr} {a b v t : Addr × Obj} {R : List (Addr × Obj)} (N : News h₀ L h (a :: b :: v :: t :: R)) : News h₀ L h (v :: R) := fun p hp => N p (by
  rcases List.mem_cons.mp hp with rfl | hp
  · exact .tail _ (.tail _ (.head _))
  · exact .tail _ (.tail _ (.tail _ (.tail _ hp))))
theorem drop_a {h₀ h : Heap} {L : Addr} {b v t : Addr × Obj} {R : List (Addr × Obj)} (N : News h₀ L h (b :: v :: t :: R)) : News h₀ L h (v :: R) := fun p hp => N p (by
  rcases List.mem_cons.mp hp with rfl | hp
  · exact .tail _ (.head _)
  · exact .tail _ (.tail _ (.tail _ hp)))
/-- the ledger of the inner loop -/
abbrev ledR (rv I : Addr) (it : Obj) (rA : Addr) (refs : List Value) (nr : Nat) (kA : Addr) (kc : Nat) (rest : List (Addr × Obj)) (c : List Value × List Value) : List (Addr × Obj) :=
  (rv, listOf c.1.toArray 0) :: (I, it) :: (rA, listOf refs.toArray nr) :: (kA, listOf c.2.toArray kc) :: rest
theorem rayInvS {g kA rA I rv : Addr} {rest rl : List (Addr × Obj)} {F R : Int} {i : Nat} {m : Str → Option Value} {nr kc : Nat} {refs kvs rvs : List Value} (hm : m (Str.ofString "geo") = some (.ref g)) (hl : refs.length = i) (hk : IntsAre kvs (kingAt F R (i + 1))) (hv : IntsAre rvs (rayTab F R i))
    (hr : ∀ j, j < i → ∃ (a : Addr) (v : List Value) (n : Nat), refs[j]? = some (Value.ref a) ∧ (a, listOf v.toArray n) ∈ rl ∧ IntsAre v (rayTab F R j))
    (a1 : ∀ p ∈ rl ++ rest, p.1 ≠ rA) (a2 : ∀ p ∈ rl ++ rest, p.1 ≠ kA) (a3 : ∀ p ∈ rl ++ rest, p.1 ≠ I) (b1 : @LT.lt Nat _ rA rv) (b2 : @LT.lt Nat _ kA rv) (b3 : @LT.lt Nat _ I rv) :
    RayInv g kA rA I rest F R (i + 1) m ((rA, listOf (refs ++ [Value.ref rv]).toArray nr) :: (kA, listOf kvs.toArray kc) :: (rv, listOf rvs.toArray 0) :: (rl ++ rest)) := by
  refine ⟨m, refs ++ [Value.ref rv], nr, kvs, kc, (rv, listOf rvs.toArray 0) :: rl, ?_, rfl, ?_, hk, ?_, ?_, ?_, ?_⟩
  · funext y
    by_cases h : y = Str.ofString "geo"
    · rw [if_pos h, h, hm]
    · rw [if_neg h]
  · rw [List.length_append, hl]; rfl
  · exact List.forall_mem_cons.mpr ⟨Nat.ne_of_gt b1, a1⟩
  · exact List.forall_mem_cons.mpr ⟨Nat.ne_of_gt b2, a2⟩
  · exact List.forall_mem_cons.mpr ⟨Nat.ne_of_gt b3, a3⟩
  · intro j hj
    by_cases h : j < i
    · obtain ⟨a, v, n, e1, e2, e3⟩ := hr j h
      exact ⟨a, v, n, by rw [List.getElem?_append_left (by omega)]; exact e1, .tail _ e2, e3⟩
    · have e : j = i := by omega
      subst e
      exact ⟨rv, rvs, 0, by rw [← hl, List.getElem?_concat_length], .head _, hv⟩

theorem unr_rays {h₀ : Heap} {L rv I : Addr} {o1 it : Obj} {a b : Addr × Obj} {rest2 : List (Addr × Obj)} {rest : (Str → Option Value) → List (Addr × Obj) → Prop} {s₁ : Shared} {h' : Heap} {tk : Nat} {m' : Str → Option Value} (F : Fr h₀ L h' m') (N : News h₀ L h' ((rv, o1) :: (I, it) :: a :: b :: rest2))
    (h1 : @Ne Nat rv I) (h2 : @Ne Nat a.1 I) (h3 : @Ne Nat b.1 I) (h4 : ∀ p ∈ rest2, p.1 ≠ I) (r : rest m' (a :: b :: (rv, o1) :: rest2)) : UnrEnd h₀ L s₁ I it rest { s₁ with heap := h', toks := tk } := by
  refine UnrEnd.intro F N (a :: b :: (rv, o1) :: rest2) (fun p hp => ?_) ?_ r
  · simp only [List.mem_cons] at hp ⊢
    rcases hp with h | h | h | h | h
    · exact .inr (.inl h)
    · exact .inr (.inr (.inl h))
    · exact .inr (.inr (.inr (.inl h)))
    · exact .inl h
    · exact .inr (.inr (.inr (.inr h)))
  · exact List.forall_mem_cons.mpr ⟨h2, List.forall_mem_cons.mpr ⟨h3, List.forall_mem_cons.mpr ⟨h1, h4⟩⟩⟩
theorem rays_out {h₀ h : Heap} {L : Addr} {a b c : Addr × Obj} {rl rest : List (Addr × Obj)} (N : News h₀ L h (a :: b :: (rl ++ c :: rest))) : News h₀ L h (c :: a :: b :: (rl ++ rest)) := fun p hp => N p (by
  simp only [List.mem_cons, List.mem_append] at hp ⊢
  rcases hp with h | h | h | h | h
  · exact .inr (.inr (.inr (.inl h)))
  · exact .inl h
  · exact .inr (.inl h)
  · exact .inr (.inr (.inl h))
  · exact .inr (.inr (.inr (.inr h))))
theorem turn_end {F R : Int} {i : Nat} {l : List Int} {rvs kvs : List Value} (e : orderV (F * R) i = l) (h1 : IntsAre rvs (l.foldl (rayStep (innerV F R i) (deltaV F i)) (List.replicate (F * R).toNat 0, kingAt F R i)).1)
    (h2 : IntsAre kvs (l.foldl (rayStep (innerV F R i) (deltaV F i)) (List.replicate (F * R).toNat 0, kingAt F R i)).2) : IntsAre rvs (rayTab F R i) ∧ IntsAre kvs (kingAt F R (i + 1)) := by
  subst e
  exact ⟨h1, h2⟩

theorem orderV_down {n : Int} {i : Nat} (h : growing i = true) : orderV n i = downKs (n - 1) (n - 1 - -1).toNat := if_pos h
theorem orderV_up {n : Int} {i : Nat} (h : growing i = false) : orderV n i = rangeKs 0 (n - 0).toNat := if_neg (by rw [h]; decide)

theorem rays_start2 {h₀ h : Heap} {L kA dg : Addr} {o1 : Obj} {b d : Addr × Obj} {rest : List (Addr × Obj)} {hsh : Int} {t : Tok} {es : List DictEntry} {n' : Nat}
    (N : News h₀ L h ((kA, o1) :: b :: (dg, dictOf (putL "king" hsh (.str "king" t) (.ref kA) es) n') :: d :: rest)) (hd : @Ne Nat kA d.1) (hr : ∀ p ∈ rest, p.1 ≠ kA) (hg : @Ne Nat dg kA) :
    ∃ (kA' : Addr) (es' : List DictEntry) (ng' : Nat), News h₀ L h (d :: (kA', o1) :: (dg, dictOf es' ng') :: rest) ∧ (∀ x : Str, x ≠ "king" → getL x es' = getL x es) ∧ getL "king" es' = some (some (.ref kA')) ∧ (@Ne Nat kA' d.1) ∧ (∀ p ∈ rest, p.1 ≠ kA') ∧ (@Ne Nat dg kA') ∧ es'.length ≤ es.length + 1 := by
  refine ⟨kA, putL "king" hsh (.str "king" t) (.ref kA) es, n', fun p hp => N p ?_, fun x hx => getL_put_ne hx _, getL_put_self _, hd, hr, hg, putL_len _⟩
  simp only [List.mem_cons] at hp ⊢
  rcases hp with h | h | h | h
  · exact .inr (.inr (.inr (.inl h)))
  · exact .inl h
  · exact .inr (.inr (.inl h))
  · exact .inr (.inr (.inr (.inr h)))

theorem castles_start {h₀ h : Heap} {L dg : Addr} {a b c : Addr × Obj} {rest : List (Addr × Obj)} {hsh : Int} {t : Tok} {v : Value} {es : List DictEntry} {n' : Nat}
    (N : News h₀ L h (a :: b :: (dg, dictOf (putL "rights_lost" hsh (.str "rights_lost" t) v es) n') :: c :: rest)) : ∃ (es' : List DictEntry) (ng' : Nat), News h₀ L h (c :: (dg, dictOf es' ng') :: rest) ∧ ∀ x : Str, x ≠ "rights_lost" → getL x es' = getL x es := by
  refine ⟨putL "rights_lost" hsh (.str "rights_lost" t) v es, n', fun p hp => N p ?_, fun x hx => getL_put_ne hx _⟩
  simp only [List.mem_cons] at hp ⊢
  rcases hp with h | h | h
  · exact .inr (.inr (.inr (.inl h)))
  · exact .inr (.inr (.inl h))
  · exact .inr (.inr (.inr (.inr h)))
theorem swap_ab {h₀ h : Heap} {L : Addr} {a b : Addr × Obj} {rest : List (Addr × Obj)} (N : News h₀ L h (a :: b :: rest)) : News h₀ L h (b :: a :: rest) := fun p hp => N p (by
  simp only [List.mem_cons] at hp ⊢
  rcases hp with h | h | h
  · exact .inr (.inl h)
  · exact .inl h
  · exact .inr (.inr h))

theorem inner_pp {F R d : Int} (a : 0 < stepF d) (c : 0 < stepR d) : innerV F R d = Builtin.bitAnd (fullV F R) (Builtin.bitNot (Builtin.bitOr (Builtin.bitOr 0 ((fileMasks F R).getD (F - 1).toNat 0)) ((rankMasks F R).getD (R - 1).toNat 0))) := by
  unfold innerV edgeV
  dsimp only
  rw [if_neg (Int.not_lt.mpr (Int.le_of_lt c)), if_pos c]
  rw [if_neg (Int.not_lt.mpr (Int.le_of_lt a)), if_pos a]
theorem inner_pn {F R d : Int} (a : 0 < stepF d) (c : ¬ 0 < stepR d) (e : stepR d < 0) : innerV F R d = Builtin.bitAnd (fullV F R) (Builtin.bitNot (Builtin.bitOr (Builtin.bitOr 0 ((fileMasks F R).getD (F - 1).toNat 0)) ((rankMasks F R).getD (0 : Int).toNat 0))) := by
  unfold innerV edgeV
  dsimp only
  rw [if_pos e, if_neg c]
  rw [if_neg (Int.not_lt.mpr (Int.le_of_lt a)), if_pos a]
theorem inner_pz {F R d : Int} (a : 0 < stepF d) (c : ¬ 0 < stepR d) (e : ¬ stepR d < 0) : innerV F R d = Builtin.bitAnd (fullV F R) (Builtin.bitNot (Builtin.bitOr 0 ((fileMasks F R).getD (F - 1).toNat 0))) := by
  unfold innerV edgeV
  dsimp only
  rw [if_neg e, if_neg c]
  rw [if_neg (Int.not_lt.mpr (Int.le_of_lt a)), if_pos a]
theorem inner_np {F R d : Int} (a : ¬ 0 < stepF d) (b : stepF d < 0) (c : 0 < stepR d) : innerV F R d = Builtin.bitAnd (fullV F R) (Builtin.bitNot (Builtin.bitOr (Builtin.bitOr 0 ((fileMasks F R).getD (0 : Int).toNat 0)) ((rankMasks F R).getD (R - 1).toNat 0))) := by
  unfold innerV edgeV
  dsimp only
  rw [if_neg (Int.not_lt.mpr (Int.le_of_lt c)), if_pos c]
  rw [if_pos b, if_neg a]
theorem inner_nn {F R d : Int} (a : ¬ 0 < stepF d) (b : stepF d < 0) (c : ¬ 0 < stepR d) (e : stepR d < 0) : innerV F R d = Builtin.bitAnd (fullV F R) (Builtin.bitNot (Builtin.bitOr (Builtin.bitOr 0 ((fileMasks F R).getD (0 : Int).toNat 0)) ((rankMasks F R).getD (0 : Int).toNat 0))) := by
  unfold innerV edgeV
  dsimp only
  rw [if_pos e, if_neg c]
  rw [if_pos b, if_neg a]
theorem inner_nz {F R d : Int} (a : ¬ 0 < stepF d) (b : stepF d < 0) (c : ¬ 0 < stepR d) (e : ¬ stepR d < 0) : innerV F R d = Builtin.bitAnd (fullV F R) (Builtin.bitNot (Builtin.bitOr 0 ((fileMasks F R).getD (0 : Int).toNat 0))) := by
  unfold innerV edgeV
  dsimp only
  rw [if_neg e, if_neg c]
  rw [if_pos b, if_neg a]
theorem inner_zp {F R d : Int} (a : ¬ 0 < stepF d) (b : ¬ stepF d < 0) (c : 0 < stepR d) : innerV F R d = Builtin.bitAnd (fullV F R) (Builtin.bitNot (Builtin.bitOr 0 ((rankMasks F R).getD (R - 1).toNat 0))) := by
  unfold innerV edgeV
  dsimp only
  rw [if_neg (Int.not_lt.mpr (Int.le_of_lt c)), if_pos c]
  rw [if_neg b, if_neg a]
theorem inner_zn {F R d : Int} (a : ¬ 0 < stepF d) (b : ¬ stepF d < 0) (c : ¬ 0 < stepR d) (e : stepR d < 0) : innerV F R d = Builtin.bitAnd (fullV F R) (Builtin.bitNot (Builtin.bitOr 0 ((rankMasks F R).getD (0 : Int).toNat 0))) := by
  unfold innerV edgeV
  dsimp only
  rw [if_pos e, if_neg c]
  rw [if_neg b, if_neg a]
theorem inner_zz {F R d : Int} (a : ¬ 0 < stepF d) (b : ¬ stepF d < 0) (c : ¬ 0 < stepR d) (e : ¬ stepR d < 0) : innerV F R d = Builtin.bitAnd (fullV F R) (Builtin.bitNot 0) := by
  unfold innerV edgeV
  dsimp only
  rw [if_neg e, if_neg c]
  rw [if_neg b, if_neg a]

theorem growing_pos {d : Int} (h0 : 0 ≤ d) (h8 : d < 8) (h : 0 < stepR d) : decide (0 < stepR d) = growing d := by
  have hc := dirs h0 h8
  rcases hc with rfl | rfl | rfl | rfl | rfl | rfl | rfl | rfl <;> revert h <;> decide
theorem growing_neg {d : Int} (h0 : 0 ≤ d) (h8 : d < 8) (h : ¬ 0 < stepR d) : (d == 1) = growing d := by
  have hc := dirs h0 h8
  rcases hc with rfl | rfl | rfl | rfl | rfl | rfl | rfl | rfl <;> revert h <;> decide

section
variable {prog : Program} {w : World} {A : Around} {E : Value → Shared → Prop} {Q : Value → Shared → Prop} {H : Heap} {G : Array GenState} {D : Drawn} {O : OsState} {tk : Nat} {a b : Int} {t u : Tok}
theorem const_tk {k : Nat} {n : Int} {p : Pos} {env : Env} (x : Q (.int n tk) ⟨H, G, D, tk.succ, O⟩) : wpAny (model prog w) A (eval (.Constant (.int n) k p) env) Q E ⟨H, G, D, tk, O⟩ := wpAny_Constant_int x
theorem and_tk (x : Q (.int (Builtin.bitAnd a b) tk) ⟨H, G, D, tk.succ, O⟩) : wpAny (model prog w) A (binaryOp .BitAnd (.int a t) (.int b u)) Q E ⟨H, G, D, tk, O⟩ := and_int x
theorem or_tk (x : Q (.int (Builtin.bitOr a b) tk) ⟨H, G, D, tk.succ, O⟩) : wpAny (model prog w) A (binaryOp .BitOr (.int a t) (.int b u)) Q E ⟨H, G, D, tk, O⟩ := or_int x
theorem ior_tk (x : Q (.int (Builtin.bitOr a b) tk) ⟨H, G, D, tk.succ, O⟩) : wpAny (model prog w) A (inplaceOp .BitOr (.int a t) (.int b u)) Q E ⟨H, G, D, tk, O⟩ := ior_int x
theorem add_tk (x : Q (.int (a + b) tk) ⟨H, G, D, tk.succ, O⟩) : wpAny (model prog w) A (binaryOp .Add (.int a t) (.int b u)) Q E ⟨H, G, D, tk, O⟩ := PyProof.Rows.add_int x
theorem sub_tk (x : Q (.int (a - b) tk) ⟨H, G, D, tk.succ, O⟩) : wpAny (model prog w) A (binaryOp .Sub (.int a t) (.int b u)) Q E ⟨H, G, D, tk, O⟩ := PyProof.Rows.sub_int x
theorem inv_tk (x : Q (.int (Builtin.bitNot a) tk) ⟨H, G, D, tk.succ, O⟩) : wpAny (model prog w) A (unaryOp .Invert (.int a t)) Q E ⟨H, G, D, tk, O⟩ := invert_int x
theorem shr_tk (hn : 0 ≤ b) (x : Q (.int (a.fdiv (2 ^ b.toNat)) tk) ⟨H, G, D, tk.succ, O⟩) : wpAny (model prog w) A (binaryOp .RShift (.int a t) (.int b u)) Q E ⟨H, G, D, tk, O⟩ := rshift_int hn x
theorem shl_tk (hn : 0 ≤ b) (hn2 : b ≤ 1000000) (ha : a.natAbs < 2 ^ 64) (x : Q (.int (a * 2 ^ b.toNat) tk) ⟨H, G, D, tk.succ, O⟩) : wpAny (model prog w) A (binaryOp .LShift (.int a t) (.int b u)) Q E ⟨H, G, D, tk, O⟩ := lshift_int_small hn hn2 ha x
end

theorem small_FR {n : Int} (h0 : 0 ≤ n) (h1 : n ≤ 36) : Builtin.Range.small 0 n 1 = true := small_one (by omega) (by omega) (by omega) (by omega)
theorem small_FD {n : Int} (h0 : 9 ≤ n) (h1 : n ≤ 36) : Builtin.Range.small (n - 1) (-1) (-1) = true := small_down (by omega) (by omega) (by omega) (by omega)
theorem line_FR {n : Int} (h1 : n ≤ 36) : (n - 0).toNat ≤ sizeLine := by rw [PySem.sizeLine_eq]; omega
theorem line_len {vs : List Value} {ns : List Int} {n : Int} (h1 : vs.length = ns.length) (h2 : ns.length ≤ n.toNat) (h : n ≤ 36) : vs.toArray.size ≤ sizeLine := by rw [PySem.sizeLine_eq, List.size_toArray]; omega
theorem range_hi {n k : Int} (hn : 0 ≤ n) (h : k < 0 + (((n - 0).toNat : Nat) : Int)) : k < n := by omega
theorem mem_seenF {T : Tabs} {n side kind sq occ k : Int} (hn : 0 ≤ n) (h : k ∈ seenV T n.toNat side kind sq occ) : 0 ≤ k ∧ k < n := by
  obtain ⟨h0, h1, _⟩ := mem_seenV h
  omega
theorem mem_nearF {F n sq k : Int} (hn : 0 ≤ n) (h : k ∈ nearV F n.toNat sq) : 0 ≤ k ∧ k < n := by
  have := mem_nearV h
  omega
theorem turn_up {n k : Int} {m : Nat} (h0 : 0 ≤ n) (h : k = 0 + (m : Int)) (hl : m < (n - 0).toNat) : 0 ≤ k ∧ k < n := by omega
theorem turn_down {n k : Int} {m : Nat} (h0 : 9 ≤ n) (h : k = n - 1 - (m : Int)) (hl : m < (n - 1 - -1).toNat) : 0 ≤ k ∧ k < n := by omega
theorem turn_len {n : Int} {m : Nat} (h1 : n ≤ 36) (hl : m < (n - 0).toNat) : m < 36 := by omega

local macro_rules | `(tactic| k_all) => `(tactic| first | (with_reducible assumption) | assumption)
local macro_rules | `(tactic| k_mem) => `(tactic| first | (with_reducible assumption) | exact List.Mem.head _ | (refine' List.mem_cons_of_mem _ ?_; k_mem))
local macro_rules | `(tactic| is_list) => `(tactic| exact News.isList (by k_asm) (by k_mem))
local macro_rules | `(tactic| k_ne) => `(tactic| (refine' neN (off1_ne' ?kn1 ?kn2); (case kn1 => with_reducible assumption); (case kn2 => k_mem)))
local macro_rules | `(tactic| k_fold) => `(tactic| skip)

section
set_option maxRecDepth 100000 in
set_option maxHeartbeats 8000000 in
def growing_c_P (w : World) (p : Program) (loose : List Str) (mean : ExcName → Option Value) (mg : Str → Option Value) (mb : Str → Option Value) (dp : Nat) (un : Nat) (gd : Option (List Code)) (cn : Str) (cs : Scope) (a : Addr) (ccd : Value) (cl : List (Str × Addr)) (outer : List Env) (A₀ : Around) (base : Heap) (h₀ : Heap) (L : Addr) (m : Str → Option Value) (s : Shared) (Q : Value → Shared → Prop) (E : Value → Shared → Prop) (news : List (Addr × Obj)) (d : Int) (t0 : Tok) : Prop := ∀ (B : Below A₀ base outer h₀) (Fr0 : Fr h₀ L s.heap m) (X : (hd.heap_39 w.params).In h₀) (N : News h₀ L s.heap news) (Tp : Top p loose mean mg mb h₀) (hk : cs.kind = .function)
  (h0 : 0 ≤ d) (h8 : d < 8)
  (hd : dp + 2 < recursionLimit) (hu : un + 16 < cLine)
  (hret : ∀ (t : Tok) (h' : Heap) (tk' : Nat), Fr h₀ L h' m → News h₀ L h' news → Q (.bool (growing d)) { s with heap := h', toks := tk' }),
  wpAny (model PySem.Challenge.rw_tg0014_01.row.toRowW.1 w) (ktrTop dp un gd cn cs L a ccd cl outer) (call (.ref 64) [.int d t0]) Q E s
set_option maxRecDepth 100000 in
set_option maxHeartbeats 8000000 in
theorem growing_c_q : ∀ x : Ctx × (Int) × (Tok), growing_c_P x.1.w x.1.p x.1.loose x.1.mean x.1.mg x.1.mb x.1.dp x.1.un x.1.gd x.1.cn x.1.cs x.1.a x.1.ccd x.1.cl x.1.outer x.1.A₀ x.1.base x.1.h₀ x.1.L x.1.m x.1.s x.1.Q x.1.E x.1.news x.2.1 x.2.2 := by
  refine eps_c ((?_ : ∀ w p loose mean mg mb dp un gd cn cs a ccd cl outer A₀ base h₀ L m s Q E news d t0, growing_c_P w p loose mean mg mb dp un gd cn cs a ccd cl outer A₀ base h₀ L m s Q E news d t0) _ _ _ _ _ _ _ _ _ _ _ _ _ _ _ _ _ _ _ _ _ _ _ _ _ _)
  intros w p loose mean mg mb dp un gd cn cs a ccd cl outer A₀ base h₀ L m s Q E news d t0 B Fr0 X N Tp hk h0 h8 hd hu hret
  w_top off
  revert X; k_fill; intro X
  refine wpAny_call ?_
  k_dflt (refine' code_def ?k1 ?k2 ?k3 ?k4 ?k5 ?kA ?kF ?kK ?k6 ?k7 ?k8 ?k9 ?kB ?_ ?c2 ?c3 ?c4 ?c5; (case kA => exact rfl); (case kF => exact rfl); (case kK => assumption); (case k1 => k_asm); (case k2 => k_asm); (case k3 => k_asm); (case k4 => k_asm); (case k5 => k_asm); (case k6 => k_is); (case k7 => k_is); (case k8 => (first | exact room2 hd rfl | exact room1 hd rfl | exact room0 hd | ktr_room)); (case k9 => exact BindsTo.of_eq rfl); (case c5 => decide); (case kB => exact locs rfl); (case c2 => exact rfl); (case c3 => exact rfl); (case c4 => exact rfl); k_whole; refine eps3 ((?_ : All3 _) _ _ _); intros g' L' h' FG' F' N' B' X' T'; (try dsimp only))
  (repeat' (first | (with_reducible first | refine const_tk ?_ | refine and_tk ?_ | refine or_tk ?_ | refine ior_tk ?_ | refine add_tk ?_ | refine sub_tk ?_ | refine inv_tk ?_) | ((with_reducible show wpAny _ _ (subscriptTail _ _ (Value.ref 36) (Value.int _ _)) _ _ _); k_dflt (refine' stepR_item ?k1 ?k2 ?k3 ?k4 ?_ ?k5; (case k1 => k_asm); (case k2 => k_asm); (case k3 => (with_reducible assumption)); (case k4 => (with_reducible assumption)); (case k5 => (intro _; with_unfolding_all rfl))); refine eps1 ((?_ : All1 _) _); intros t9; delta At1; (try dsimp only)) | (k_end; wrow_close) | walk1 | (dsimp only; walk1) | (leave1; (try dsimp only)) | fail "no step"))
  · exact cb_retB hret (growing_pos h0 h8 (by with_reducible assumption)) (by k_asm) (by k_asm)
  · exact cb_retB hret (growing_neg h0 h8 (by with_reducible assumption)) (by k_asm) (by k_asm)
theorem growing_c {w : World} {p : Program} {loose : List Str} {mean : ExcName → Option Value} {mg mb : Str → Option Value}
  {dp un : Nat} {gd : Option (List Code)} {cn : Str} {cs : Scope} {a : Addr} {ccd : Value} {cl : List (Str × Addr)} {outer : List Env} {A₀ : Around} {base h₀ : Heap} {L : Addr} {m : Str → Option Value} {s : Shared} {Q E : Value → Shared → Prop}
  {news : List (Addr × Obj)} {d : Int} {t0 : Tok}
  (B : Below A₀ base outer h₀) (Fr0 : Fr h₀ L s.heap m) (X : (hd.heap_39 w.params).In h₀) (N : News h₀ L s.heap news) (Tp : Top p loose mean mg mb h₀) (hk : cs.kind = .function)
  (h0 : 0 ≤ d) (h8 : d < 8)
  (hd : dp + 2 < recursionLimit) (hu : un + 16 < cLine)
  (hret : ∀ (t : Tok) (h' : Heap) (tk' : Nat), Fr h₀ L h' m → News h₀ L h' news → Q (.bool (growing d)) { s with heap := h', toks := tk' }) :
  wpAny (model PySem.Challenge.rw_tg0014_01.row.toRowW.1 w) (ktrTop dp un gd cn cs L a ccd cl outer) (call (.ref 64) [.int d t0]) Q E s :=
  growing_c_q ⟨⟨w, p, loose, mean, mg, mb, dp, un, gd, cn, cs, a, ccd, cl, outer, A₀, base, h₀, L, m, s, Q, E, news, 0, 0, 0, ⟨fun _ => [], [], [], [], []⟩, 0, [], 0⟩, d, t0⟩ B Fr0 X N Tp hk h0 h8 hd hu hret
end

set_option maxRecDepth 100000 in
set_option maxHeartbeats 8000000 in
def ray_c_P (w : World) (p : Program) (loose : List Str) (mean : ExcName → Option Value) (mg : Str → Option Value) (mb : Str → Option Value) (dp : Nat) (un : Nat) (gd : Option (List Code)) (cn : Str) (cs : Scope) (a : Addr) (ccd : Value) (cl : List (Str × Addr)) (outer : List Env) (A₀ : Around) (base : Heap) (h₀ : Heap) (L : Addr) (m : Str → Option Value) (s : Shared) (Q : Value → Shared → Prop) (E : Value → Shared → Prop) (news : List (Addr × Obj)) (g : Addr) (F : Int) (R : Int) (T : Tabs) (d : Int) (sq : Int) (occ : Int) (t0 : Tok) (t1 : Tok) (t2 : Tok) : Prop := ∀ (B : Below A₀ base outer h₀) (Fr0 : Fr h₀ L s.heap m) (X : (hd.heap_39 w.params).In h₀) (N : News h₀ L s.heap news) (Tp : Top p loose mean mg mb h₀) (hk : cs.kind = .function)
  (hG : GeoOk news g F R T) (hT : TabsLen T (F * R)) (hF : 3 ≤ F ∧ F ≤ 6) (hR : 3 ≤ R ∧ R ≤ 6) (hS : F * R ≤ 36) (hd0 : 0 ≤ d ∧ d < 8) (hsq : 0 ≤ sq ∧ sq < F * R)
  (hd : dp + 3 < recursionLimit) (hu : un + 24 < cLine)
  (hret : ∀ (t : Tok) (h' : Heap) (tk' : Nat), Fr h₀ L h' m → News h₀ L h' news → Q (.int (rayV T d sq occ) t) { s with heap := h', toks := tk' }),
  wpAny (model PySem.Challenge.rw_tg0014_01.row.toRowW.1 w) (ktrTop dp un gd cn cs L a ccd cl outer) (call (.ref 120) [.ref g, .int d t0, .int sq t1, .int occ t2]) Q E s
set_option maxRecDepth 100000 in
set_option maxHeartbeats 8000000 in
theorem ray_c_q : ∀ x : Ctx × (Int) × (Int) × (Int) × (Tok) × (Tok) × (Tok), ray_c_P x.1.w x.1.p x.1.loose x.1.mean x.1.mg x.1.mb x.1.dp x.1.un x.1.gd x.1.cn x.1.cs x.1.a x.1.ccd x.1.cl x.1.outer x.1.A₀ x.1.base x.1.h₀ x.1.L x.1.m x.1.s x.1.Q x.1.E x.1.news x.1.g x.1.F x.1.R x.1.T x.2.1 x.2.2.1 x.2.2.2.1 x.2.2.2.2.1 x.2.2.2.2.2.1 x.2.2.2.2.2.2 := by
  refine eps_c ((?_ : ∀ w p loose mean mg mb dp un gd cn cs a ccd cl outer A₀ base h₀ L m s Q E news g F R T d sq occ t0 t1 t2, ray_c_P w p loose mean mg mb dp un gd cn cs a ccd cl outer A₀ base h₀ L m s Q E news g F R T d sq occ t0 t1 t2) _ _ _ _ _ _ _ _ _ _ _ _ _ _ _ _ _ _ _ _ _ _ _ _ _ _ _ _ _ _ _ _ _ _)
  intros w p loose mean mg mb dp un gd cn cs a ccd cl outer A₀ base h₀ L m s Q E news g F R T d sq occ t0 t1 t2 B Fr0 X N Tp hk hG hT hF hR hS hd0 hsq hd hu hret
  w_top off
  revert X; k_fill; intro X
  refine GeoOk.use hG ((?_ : GeoAll _ _ _ _ _ _) _ _ _ _ _ _ _ _ _ _ _ _ _ _ _ _ _ _ _ _ _ _); intros dg es ng uF uS rA rs nr kA kv kn nA nv nn pA np p0 v0 n0 p1 v1 n1 hx0; obtain ⟨h1, h2, h3, h4, h5, h6, h7, h8, h9, h10, h11, h12, h13, h14, h15, h16, h17, h18, h19⟩ := hx0
  refine exs3 (h7 d.toNat (by omega)) ((?_ : All3 _) _ _ _); intros q0 qv qn hx0; obtain ⟨e1, e2, e3⟩ := hx0
  have hlen := hT.ray d.toNat (by omega)
  refine wpAny_call ?_
  k_dflt (refine' code_def ?k1 ?k2 ?k3 ?k4 ?k5 ?kA ?kF ?kK ?k6 ?k7 ?k8 ?k9 ?kB ?_ ?c2 ?c3 ?c4 ?c5; (case kA => exact rfl); (case kF => exact rfl); (case kK => assumption); (case k1 => k_asm); (case k2 => k_asm); (case k3 => k_asm); (case k4 => k_asm); (case k5 => k_asm); (case k6 => k_is); (case k7 => k_is); (case k8 => (first | exact room2 hd rfl | exact room1 hd rfl | exact room0 hd | ktr_room)); (case k9 => exact BindsTo.of_eq rfl); (case c5 => decide); (case kB => exact locs rfl); (case c2 => exact rfl); (case c3 => exact rfl); (case c4 => exact rfl); k_whole; refine eps3 ((?_ : All3 _) _ _ _); intros g' L' h' FG' F' N' B' X' T'; (try dsimp only))
  (repeat' (first | ((with_reducible show wpAny _ _ (call (Value.ref 64) _) _ _ _); k_dflt (refine' growing_c ?k1 ?k2 ?k3 ?k4 ?k5 ?k6 ?a1 ?a2 ?d ?u ?_; (case k1 => k_asm); (case k2 => k_asm); (case k3 => k_asm); (case k4 => k_asm); (case k5 => k_asm); (case k6 => first | exact rfl | assumption); (case a1 => (first | exact And.left (by with_reducible assumption) | exact And.right (by with_reducible assumption))); (case a2 => (first | exact And.left (by with_reducible assumption) | exact And.right (by with_reducible assumption))); (case d => (first | exact room2 hd rfl | exact room1 hd rfl | exact room0 hd | ktr_room)); (case u => (dsimp only [ktrTop, units_deeper]; first | exact hu | exact room2 hu rfl | exact room1 hu rfl | omega)); refine eps3 ((?_ : All3 _) _ _ _); intros t9 h9 tk9 F9 N9; (try dsimp only))) | (with_reducible first | refine const_tk ?_ | refine and_tk ?_ | refine or_tk ?_ | refine ior_tk ?_ | refine add_tk ?_ | refine sub_tk ?_ | refine inv_tk ?_) | ((with_reducible show wpAny _ _ (storeName _ _ _) _ _ _); k_dflt (refine' storeX_L ?sF ?sN ?_ ?sa ?sb; (case sF => k_asm); (case sN => k_asm); (case sa => rfl); (case sb => rfl); k_whole; refine eps1 ((?_ : All1 _) _); intros h' F' N'; (try k_sweep))) | ((with_reducible show wpAny _ _ (getAttr (Value.ref _) _ _) _ _ _); k_dflt (refine' get_own ?k1 ?k2 ?k3 ?k4 ?k5 ?k6 ?k7 ?k8 ?k9 ?_; (case k1 => k_asm); (case k2 => k_asm); (case k3 => k_inst); (case k4 => k_is); (case k5 => k_is); (case k6 => k_is); (case k7 => k_is); (case k8 => first | (with_reducible assumption) | exact (getL_put_ne (by decide) _).trans (by with_reducible assumption) | exact getL_put_self _); (case k9 => k_handed); k_whole)) | ((with_reducible show wpAny _ _ (subscriptTail _ _ (Value.ref _) (Value.int _ _)) _ _ _); k_dflt (refine' ksa_sub ?k1 ?k2 ?k3 ?k4 ?k5 ?k6 ?_ ?k7; (case k1 => k_asm); (case k2 => k_mem); (case k3 => with_reducible assumption); (case k4 => (first | exact And.left (by with_reducible assumption) | exact lt_len (by with_reducible assumption) (by first | with_reducible assumption | exact And.right (by with_reducible assumption) | exact in_hi (by with_reducible assumption) (by with_reducible assumption)) | exact lt63 (by with_reducible assumption) (by first | with_reducible assumption | exact And.right (by with_reducible assumption) | exact in_hi (by with_reducible assumption) (by with_reducible assumption)))); (case k5 => (first | exact And.left (by with_reducible assumption) | exact lt_len (by with_reducible assumption) (by first | with_reducible assumption | exact And.right (by with_reducible assumption) | exact in_hi (by with_reducible assumption) (by with_reducible assumption)) | exact lt63 (by with_reducible assumption) (by first | with_reducible assumption | exact And.right (by with_reducible assumption) | exact in_hi (by with_reducible assumption) (by with_reducible assumption)))); (case k6 => (first | exact And.left (by with_reducible assumption) | exact lt_len (by with_reducible assumption) (by first | with_reducible assumption | exact And.right (by with_reducible assumption) | exact in_hi (by with_reducible assumption) (by with_reducible assumption)) | exact lt63 (by with_reducible assumption) (by first | with_reducible assumption | exact And.right (by with_reducible assumption) | exact in_hi (by with_reducible assumption) (by with_reducible assumption)))); (case k7 => with_unfolding_all rfl); k_whole); refine eps1 ((?_ : All1 _) _); intros t9; delta At1; (try dsimp only)) | ((with_reducible show wpAny _ _ (subscriptTail _ _ (Value.ref _) (Value.int _ _)) _ _ _); (with_unfolding_all refine' item_ref ?k1 ?k2 ?k3 ?k4 ?_ ?k6; (case k1 => is_list); (case k2 => with_reducible assumption); (case k3 => (first | exact And.left (by with_reducible assumption) | omega)); (case k4 => (first | exact And.left (by with_reducible assumption) | omega)); (case k6 => with_unfolding_all rfl); k_whole)) | (k_end; wrow_close) | walk1 | (dsimp only; walk1) | (leave1; (try dsimp only)) | fail "no step"))
  all_goals refine cb_retI hret ?_ (by k_asm) (by k_asm)
  all_goals (unfold rayV rayAtt smear; dsimp only)
  · rw [if_pos (by assumption)]
  · rw [if_neg (by assumption), if_pos (by assumption)]
  · rw [if_neg (by assumption), if_neg (by first | assumption | simp only [*, Bool.false_eq_true, not_false_eq_true])]
theorem ray_c {w : World} {p : Program} {loose : List Str} {mean : ExcName → Option Value} {mg mb : Str → Option Value}
  {dp un : Nat} {gd : Option (List Code)} {cn : Str} {cs : Scope} {a : Addr} {ccd : Value} {cl : List (Str × Addr)} {outer : List Env} {A₀ : Around} {base h₀ : Heap} {L : Addr} {m : Str → Option Value} {s : Shared} {Q E : Value → Shared → Prop}
  {news : List (Addr × Obj)} {g : Addr} {F R : Int} {T : Tabs} {d sq occ : Int} {t0 t1 t2 : Tok}
  (B : Below A₀ base outer h₀) (Fr0 : Fr h₀ L s.heap m) (X : (hd.heap_39 w.params).In h₀) (N : News h₀ L s.heap news) (Tp : Top p loose mean mg mb h₀) (hk : cs.kind = .function)
  (hG : GeoOk news g F R T) (hT : TabsLen T (F * R)) (hF : 3 ≤ F ∧ F ≤ 6) (hR : 3 ≤ R ∧ R ≤ 6) (hS : F * R ≤ 36) (hd0 : 0 ≤ d ∧ d < 8) (hsq : 0 ≤ sq ∧ sq < F * R)
  (hd : dp + 3 < recursionLimit) (hu : un + 24 < cLine)
  (hret : ∀ (t : Tok) (h' : Heap) (tk' : Nat), Fr h₀ L h' m → News h₀ L h' news → Q (.int (rayV T d sq occ) t) { s with heap := h', toks := tk' }) :
  wpAny (model PySem.Challenge.rw_tg0014_01.row.toRowW.1 w) (ktrTop dp un gd cn cs L a ccd cl outer) (call (.ref 120) [.ref g, .int d t0, .int sq t1, .int occ t2]) Q E s :=
  ray_c_q ⟨⟨w, p, loose, mean, mg, mb, dp, un, gd, cn, cs, a, ccd, cl, outer, A₀, base, h₀, L, m, s, Q, E, news, g, F, R, T, 0, [], 0⟩, d, sq, occ, t0, t1, t2⟩ B Fr0 X N Tp hk hG hT hF hR hS hd0 hsq hd hu hret

set_option maxRecDepth 100000 in
set_option maxHeartbeats 8000000 in
def rook_c_P (w : World) (p : Program) (loose : List Str) (mean : ExcName → Option Value) (mg : Str → Option Value) (mb : Str → Option Value) (dp : Nat) (un : Nat) (gd : Option (List Code)) (cn : Str) (cs : Scope) (a : Addr) (ccd : Value) (cl : List (Str × Addr)) (outer : List Env) (A₀ : Around) (base : Heap) (h₀ : Heap) (L : Addr) (m : Str → Option Value) (s : Shared) (Q : Value → Shared → Prop) (E : Value → Shared → Prop) (news : List (Addr × Obj)) (g : Addr) (F : Int) (R : Int) (T : Tabs) (sq : Int) (occ : Int) (t1 : Tok) (t2 : Tok) : Prop := ∀ (B : Below A₀ base outer h₀) (Fr0 : Fr h₀ L s.heap m) (X : (hd.heap_39 w.params).In h₀) (N : News h₀ L s.heap news) (Tp : Top p loose mean mg mb h₀) (hk : cs.kind = .function)
  (hG : GeoOk news g F R T) (hT : TabsLen T (F * R)) (hF : 3 ≤ F ∧ F ≤ 6) (hR : 3 ≤ R ∧ R ≤ 6) (hS : F * R ≤ 36) (hsq : 0 ≤ sq ∧ sq < F * R)
  (hd : dp + 4 < recursionLimit) (hu : un + 32 < cLine)
  (hret : ∀ (t : Tok) (h' : Heap) (tk' : Nat), Fr h₀ L h' m → News h₀ L h' news → Q (.int (rookV T sq occ) t) { s with heap := h', toks := tk' }),
  wpAny (model PySem.Challenge.rw_tg0014_01.row.toRowW.1 w) (ktrTop dp un gd cn cs L a ccd cl outer) (call (.ref 127) [.ref g, .int sq t1, .int occ t2]) Q E s
set_option maxRecDepth 100000 in
set_option maxHeartbeats 8000000 in
theorem rook_c_q : ∀ x : Ctx × (Int) × (Int) × (Tok) × (Tok), rook_c_P x.1.w x.1.p x.1.loose x.1.mean x.1.mg x.1.mb x.1.dp x.1.un x.1.gd x.1.cn x.1.cs x.1.a x.1.ccd x.1.cl x.1.outer x.1.A₀ x.1.base x.1.h₀ x.1.L x.1.m x.1.s x.1.Q x.1.E x.1.news x.1.g x.1.F x.1.R x.1.T x.2.1 x.2.2.1 x.2.2.2.1 x.2.2.2.2 := by
  refine eps_c ((?_ : ∀ w p loose mean mg mb dp un gd cn cs a ccd cl outer A₀ base h₀ L m s Q E news g F R T sq occ t1 t2, rook_c_P w p loose mean mg mb dp un gd cn cs a ccd cl outer A₀ base h₀ L m s Q E news g F R T sq occ t1 t2) _ _ _ _ _ _ _ _ _ _ _ _ _ _ _ _ _ _ _ _ _ _ _ _ _ _ _ _ _ _ _ _)
  intros w p loose mean mg mb dp un gd cn cs a ccd cl outer A₀ base h₀ L m s Q E news g F R T sq occ t1 t2 B Fr0 X N Tp hk hG hT hF hR hS hsq hd hu hret
  w_top off
  revert X; k_fill; intro X
  refine wpAny_call ?_
  k_dflt (refine' code_def ?k1 ?k2 ?k3 ?k4 ?k5 ?kA ?kF ?kK ?k6 ?k7 ?k8 ?k9 ?kB ?_ ?c2 ?c3 ?c4 ?c5; (case kA => exact rfl); (case kF => exact rfl); (case kK => assumption); (case k1 => k_asm); (case k2 => k_asm); (case k3 => k_asm); (case k4 => k_asm); (case k5 => k_asm); (case k6 => k_is); (case k7 => k_is); (case k8 => (first | exact room2 hd rfl | exact room1 hd rfl | exact room0 hd | ktr_room)); (case k9 => exact BindsTo.of_eq rfl); (case c5 => decide); (case kB => exact locs rfl); (case c2 => exact rfl); (case c3 => exact rfl); (case c4 => exact rfl); k_whole; refine eps3 ((?_ : All3 _) _ _ _); intros g' L' h' FG' F' N' B' X' T'; (try dsimp only))
  (repeat' (first | ((with_reducible show wpAny _ _ (call (Value.ref 120) _) _ _ _); k_dflt (refine' ray_c ?k1 ?k2 ?k3 ?k4 ?k5 ?k6 ?g ?gt ?gf ?gr ?gs ?a1 ?a2 ?d ?u ?_; (case k1 => k_asm); (case k2 => k_asm); (case k3 => k_asm); (case k4 => k_asm); (case k5 => k_asm); (case k6 => first | exact rfl | assumption); (case g => (refine' GeoOk.cons ?gg; (case gg => assumption))); (case gt => assumption); (case gf => assumption); (case gr => assumption); (case gs => assumption); (case a1 => (first | with_reducible assumption | decide)); (case a2 => (first | with_reducible assumption | decide)); (case d => (first | exact room2 hd rfl | exact room1 hd rfl | exact room0 hd | ktr_room)); (case u => (dsimp only [ktrTop, units_deeper]; first | exact hu | exact room2 hu rfl | exact room1 hu rfl | omega)); refine eps3 ((?_ : All3 _) _ _ _); intros t9 h9 tk9 F9 N9; (try dsimp only))) | (with_reducible first | refine const_tk ?_ | refine and_tk ?_ | refine or_tk ?_ | refine ior_tk ?_ | refine add_tk ?_ | refine sub_tk ?_ | refine inv_tk ?_) | ((with_reducible show wpAny _ _ (storeName _ _ _) _ _ _); k_dflt (refine' storeX_L ?sF ?sN ?_ ?sa ?sb; (case sF => k_asm); (case sN => k_asm); (case sa => rfl); (case sb => rfl); k_whole; refine eps1 ((?_ : All1 _) _); intros h' F' N'; (try k_sweep))) | ((with_reducible show wpAny _ _ (call (Value.type _) _) _ _ _); (with_reducible rename Fr _ _ _ _ => F8); (with_reducible rename News _ _ _ _ => N8); first | (with_unfolding_all refine range1_rows F8 N8 ?_; refine eps5 ((?_ : All5 _) _ _ _ _ _); intros _ _ _ _ _ _ _ _ _) | (with_unfolding_all refine range2_rows F8 N8 ?_; refine eps5 ((?_ : All5 _) _ _ _ _ _); intros _ _ _ _ _ _ _ _ _) | (with_unfolding_all refine range3_rows F8 N8 (by decide) ?_; refine eps5 ((?_ : All5 _) _ _ _ _ _); intros _ _ _ _ _ _ _ _ _)) | ((with_reducible show wpAny _ _ (pyIter (Value.ref _)) _ _ _); (with_reducible rename IsRange _ _ _ _ _ _ _ _ => rg9); (rename Fr _ _ _ _ => lF'); (rename News _ _ _ _ => lN'); (with_unfolding_all refine iter_rangeUnr (n := 4) (by rfl) rg9 (by first | decide | rfl) (by first | decide | rfl) lF' lN' ?_); clear lF' lN'; refine eps1 ((?_ : All1 _) _); intros i' l1; (try k_lt l1)) | ((with_reducible show RangeRest ..); with_unfolding_all (first | (refine RangeRest.succ ?_; refine eps3 ((?_ : All3 _) _ _ _); intros t' h' tk' F' N') | (refine RangeRest.zero ?_; refine eps2 ((?_ : All2 _) _ _); intros h' tk' F' N'))) | ((with_reducible show UnrEnd ..); k_dflt (refine unr_end (by k_asm) (by k_asm) (by first | assumption | exact allLt_mem (by assumption)) ?_)) | (k_end; wrow_close) | walk1 | (dsimp only; walk1) | (leave1; (try dsimp only)) | fail "no step"))
  all_goals exact cb_retI hret rfl (by k_asm) (by k_asm)
theorem rook_c {w : World} {p : Program} {loose : List Str} {mean : ExcName → Option Value} {mg mb : Str → Option Value}
  {dp un : Nat} {gd : Option (List Code)} {cn : Str} {cs : Scope} {a : Addr} {ccd : Value} {cl : List (Str × Addr)} {outer : List Env} {A₀ : Around} {base h₀ : Heap} {L : Addr} {m : Str → Option Value} {s : Shared} {Q E : Value → Shared → Prop}
  {news : List (Addr × Obj)} {g : Addr} {F R : Int} {T : Tabs} {sq occ : Int} {t1 t2 : Tok}
  (B : Below A₀ base outer h₀) (Fr0 : Fr h₀ L s.heap m) (X : (hd.heap_39 w.params).In h₀) (N : News h₀ L s.heap news) (Tp : Top p loose mean mg mb h₀) (hk : cs.kind = .function)
  (hG : GeoOk news g F R T) (hT : TabsLen T (F * R)) (hF : 3 ≤ F ∧ F ≤ 6) (hR : 3 ≤ R ∧ R ≤ 6) (hS : F * R ≤ 36) (hsq : 0 ≤ sq ∧ sq < F * R)
  (hd : dp + 4 < recursionLimit) (hu : un + 32 < cLine)
  (hret : ∀ (t : Tok) (h' : Heap) (tk' : Nat), Fr h₀ L h' m → News h₀ L h' news → Q (.int (rookV T sq occ) t) { s with heap := h', toks := tk' }) :
  wpAny (model PySem.Challenge.rw_tg0014_01.row.toRowW.1 w) (ktrTop dp un gd cn cs L a ccd cl outer) (call (.ref 127) [.ref g, .int sq t1, .int occ t2]) Q E s :=
  rook_c_q ⟨⟨w, p, loose, mean, mg, mb, dp, un, gd, cn, cs, a, ccd, cl, outer, A₀, base, h₀, L, m, s, Q, E, news, g, F, R, T, 0, [], 0⟩, sq, occ, t1, t2⟩ B Fr0 X N Tp hk hG hT hF hR hS hsq hd hu hret

set_option maxRecDepth 100000 in
set_option maxHeartbeats 8000000 in
def bishop_c_P (w : World) (p : Program) (loose : List Str) (mean : ExcName → Option Value) (mg : Str → Option Value) (mb : Str → Option Value) (dp : Nat) (un : Nat) (gd : Option (List Code)) (cn : Str) (cs : Scope) (a : Addr) (ccd : Value) (cl : List (Str × Addr)) (outer : List Env) (A₀ : Around) (base : Heap) (h₀ : Heap) (L : Addr) (m : Str → Option Value) (s : Shared) (Q : Value → Shared → Prop) (E : Value → Shared → Prop) (news : List (Addr × Obj)) (g : Addr) (F : Int) (R : Int) (T : Tabs) (sq : Int) (occ : Int) (t1 : Tok) (t2 : Tok) : Prop := ∀ (B : Below A₀ base outer h₀) (Fr0 : Fr h₀ L s.heap m) (X : (hd.heap_39 w.params).In h₀) (N : News h₀ L s.heap news) (Tp : Top p loose mean mg mb h₀) (hk : cs.kind = .function)
  (hG : GeoOk news g F R T) (hT : TabsLen T (F * R)) (hF : 3 ≤ F ∧ F ≤ 6) (hR : 3 ≤ R ∧ R ≤ 6) (hS : F * R ≤ 36) (hsq : 0 ≤ sq ∧ sq < F * R)
  (hd : dp + 4 < recursionLimit) (hu : un + 32 < cLine)
  (hret : ∀ (t : Tok) (h' : Heap) (tk' : Nat), Fr h₀ L h' m → News h₀ L h' news → Q (.int (bishopV T sq occ) t) { s with heap := h', toks := tk' }),
  wpAny (model PySem.Challenge.rw_tg0014_01.row.toRowW.1 w) (ktrTop dp un gd cn cs L a ccd cl outer) (call (.ref 134) [.ref g, .int sq t1, .int occ t2]) Q E s
set_option maxRecDepth 100000 in
set_option maxHeartbeats 8000000 in
theorem bishop_c_q : ∀ x : Ctx × (Int) × (Int) × (Tok) × (Tok), bishop_c_P x.1.w x.1.p x.1.loose x.1.mean x.1.mg x.1.mb x.1.dp x.1.un x.1.gd x.1.cn x.1.cs x.1.a x.1.ccd x.1.cl x.1.outer x.1.A₀ x.1.base x.1.h₀ x.1.L x.1.m x.1.s x.1.Q x.1.E x.1.news x.1.g x.1.F x.1.R x.1.T x.2.1 x.2.2.1 x.2.2.2.1 x.2.2.2.2 := by
  refine eps_c ((?_ : ∀ w p loose mean mg mb dp un gd cn cs a ccd cl outer A₀ base h₀ L m s Q E news g F R T sq occ t1 t2, bishop_c_P w p loose mean mg mb dp un gd cn cs a ccd cl outer A₀ base h₀ L m s Q E news g F R T sq occ t1 t2) _ _ _ _ _ _ _ _ _ _ _ _ _ _ _ _ _ _ _ _ _ _ _ _ _ _ _ _ _ _ _ _)
  intros w p loose mean mg mb dp un gd cn cs a ccd cl outer A₀ base h₀ L m s Q E news g F R T sq occ t1 t2 B Fr0 X N Tp hk hG hT hF hR hS hsq hd hu hret
  w_top off
  revert X; k_fill; intro X
  refine wpAny_call ?_
  k_dflt (refine' code_def ?k1 ?k2 ?k3 ?k4 ?k5 ?kA ?kF ?kK ?k6 ?k7 ?k8 ?k9 ?kB ?_ ?c2 ?c3 ?c4 ?c5; (case kA => exact rfl); (case kF => exact rfl); (case kK => assumption); (case k1 => k_asm); (case k2 => k_asm); (case k3 => k_asm); (case k4 => k_asm); (case k5 => k_asm); (case k6 => k_is); (case k7 => k_is); (case k8 => (first | exact room2 hd rfl | exact room1 hd rfl | exact room0 hd | ktr_room)); (case k9 => exact BindsTo.of_eq rfl); (case c5 => decide); (case kB => exact locs rfl); (case c2 => exact rfl); (case c3 => exact rfl); (case c4 => exact rfl); k_whole; refine eps3 ((?_ : All3 _) _ _ _); intros g' L' h' FG' F' N' B' X' T'; (try dsimp only))
  (repeat' (first | ((with_reducible show wpAny _ _ (call (Value.ref 120) _) _ _ _); k_dflt (refine' ray_c ?k1 ?k2 ?k3 ?k4 ?k5 ?k6 ?g ?gt ?gf ?gr ?gs ?a1 ?a2 ?d ?u ?_; (case k1 => k_asm); (case k2 => k_asm); (case k3 => k_asm); (case k4 => k_asm); (case k5 => k_asm); (case k6 => first | exact rfl | assumption); (case g => (refine' GeoOk.cons ?gg; (case gg => assumption))); (case gt => assumption); (case gf => assumption); (case gr => assumption); (case gs => assumption); (case a1 => (first | with_reducible assumption | decide)); (case a2 => (first | with_reducible assumption | decide)); (case d => (first | exact room2 hd rfl | exact room1 hd rfl | exact room0 hd | ktr_room)); (case u => (dsimp only [ktrTop, units_deeper]; first | exact hu | exact room2 hu rfl | exact room1 hu rfl | omega)); refine eps3 ((?_ : All3 _) _ _ _); intros t9 h9 tk9 F9 N9; (try dsimp only))) | (with_reducible first | refine const_tk ?_ | refine and_tk ?_ | refine or_tk ?_ | refine ior_tk ?_ | refine add_tk ?_ | refine sub_tk ?_ | refine inv_tk ?_) | ((with_reducible show wpAny _ _ (storeName _ _ _) _ _ _); k_dflt (refine' storeX_L ?sF ?sN ?_ ?sa ?sb; (case sF => k_asm); (case sN => k_asm); (case sa => rfl); (case sb => rfl); k_whole; refine eps1 ((?_ : All1 _) _); intros h' F' N'; (try k_sweep))) | ((with_reducible show wpAny _ _ (call (Value.type _) _) _ _ _); (with_reducible rename Fr _ _ _ _ => F8); (with_reducible rename News _ _ _ _ => N8); first | (with_unfolding_all refine range1_rows F8 N8 ?_; refine eps5 ((?_ : All5 _) _ _ _ _ _); intros _ _ _ _ _ _ _ _ _) | (with_unfolding_all refine range2_rows F8 N8 ?_; refine eps5 ((?_ : All5 _) _ _ _ _ _); intros _ _ _ _ _ _ _ _ _) | (with_unfolding_all refine range3_rows F8 N8 (by decide) ?_; refine eps5 ((?_ : All5 _) _ _ _ _ _); intros _ _ _ _ _ _ _ _ _)) | ((with_reducible show wpAny _ _ (pyIter (Value.ref _)) _ _ _); (with_reducible rename IsRange _ _ _ _ _ _ _ _ => rg9); (rename Fr _ _ _ _ => lF'); (rename News _ _ _ _ => lN'); (with_unfolding_all refine iter_rangeUnr (n := 4) (by rfl) rg9 (by first | decide | rfl) (by first | decide | rfl) lF' lN' ?_); clear lF' lN'; refine eps1 ((?_ : All1 _) _); intros i' l1; (try k_lt l1)) | ((with_reducible show RangeRest ..); with_unfolding_all (first | (refine RangeRest.succ ?_; refine eps3 ((?_ : All3 _) _ _ _); intros t' h' tk' F' N') | (refine RangeRest.zero ?_; refine eps2 ((?_ : All2 _) _ _); intros h' tk' F' N'))) | ((with_reducible show UnrEnd ..); k_dflt (refine unr_end (by k_asm) (by k_asm) (by first | assumption | exact allLt_mem (by assumption)) ?_)) | (k_end; wrow_close) | walk1 | (dsimp only; walk1) | (leave1; (try dsimp only)) | fail "no step"))
  all_goals exact cb_retI hret rfl (by k_asm) (by k_asm)
theorem bishop_c {w : World} {p : Program} {loose : List Str} {mean : ExcName → Option Value} {mg mb : Str → Option Value}
  {dp un : Nat} {gd : Option (List Code)} {cn : Str} {cs : Scope} {a : Addr} {ccd : Value} {cl : List (Str × Addr)} {outer : List Env} {A₀ : Around} {base h₀ : Heap} {L : Addr} {m : Str → Option Value} {s : Shared} {Q E : Value → Shared → Prop}
  {news : List (Addr × Obj)} {g : Addr} {F R : Int} {T : Tabs} {sq occ : Int} {t1 t2 : Tok}
  (B : Below A₀ base outer h₀) (Fr0 : Fr h₀ L s.heap m) (X : (hd.heap_39 w.params).In h₀) (N : News h₀ L s.heap news) (Tp : Top p loose mean mg mb h₀) (hk : cs.kind = .function)
  (hG : GeoOk news g F R T) (hT : TabsLen T (F * R)) (hF : 3 ≤ F ∧ F ≤ 6) (hR : 3 ≤ R ∧ R ≤ 6) (hS : F * R ≤ 36) (hsq : 0 ≤ sq ∧ sq < F * R)
  (hd : dp + 4 < recursionLimit) (hu : un + 32 < cLine)
  (hret : ∀ (t : Tok) (h' : Heap) (tk' : Nat), Fr h₀ L h' m → News h₀ L h' news → Q (.int (bishopV T sq occ) t) { s with heap := h', toks := tk' }) :
  wpAny (model PySem.Challenge.rw_tg0014_01.row.toRowW.1 w) (ktrTop dp un gd cn cs L a ccd cl outer) (call (.ref 134) [.ref g, .int sq t1, .int occ t2]) Q E s :=
  bishop_c_q ⟨⟨w, p, loose, mean, mg, mb, dp, un, gd, cn, cs, a, ccd, cl, outer, A₀, base, h₀, L, m, s, Q, E, news, g, F, R, T, 0, [], 0⟩, sq, occ, t1, t2⟩ B Fr0 X N Tp hk hG hT hF hR hS hsq hd hu hret

set_option maxRecDepth 100000 in
set_option maxHeartbeats 8000000 in
def queen_c_P (w : World) (p : Program) (loose : List Str) (mean : ExcName → Option Value) (mg : Str → Option Value) (mb : Str → Option Value) (dp : Nat) (un : Nat) (gd : Option (List Code)) (cn : Str) (cs : Scope) (a : Addr) (ccd : Value) (cl : List (Str × Addr)) (outer : List Env) (A₀ : Around) (base : Heap) (h₀ : Heap) (L : Addr) (m : Str → Option Value) (s : Shared) (Q : Value → Shared → Prop) (E : Value → Shared → Prop) (news : List (Addr × Obj)) (g : Addr) (F : Int) (R : Int) (T : Tabs) (sq : Int) (occ : Int) (t1 : Tok) (t2 : Tok) : Prop := ∀ (B : Below A₀ base outer h₀) (Fr0 : Fr h₀ L s.heap m) (X : (hd.heap_39 w.params).In h₀) (N : News h₀ L s.heap news) (Tp : Top p loose mean mg mb h₀) (hk : cs.kind = .function)
  (hG : GeoOk news g F R T) (hT : TabsLen T (F * R)) (hF : 3 ≤ F ∧ F ≤ 6) (hR : 3 ≤ R ∧ R ≤ 6) (hS : F * R ≤ 36) (hsq : 0 ≤ sq ∧ sq < F * R)
  (hd : dp + 5 < recursionLimit) (hu : un + 40 < cLine)
  (hret : ∀ (t : Tok) (h' : Heap) (tk' : Nat), Fr h₀ L h' m → News h₀ L h' news → Q (.int (queenV T sq occ) t) { s with heap := h', toks := tk' }),
  wpAny (model PySem.Challenge.rw_tg0014_01.row.toRowW.1 w) (ktrTop dp un gd cn cs L a ccd cl outer) (call (.ref 141) [.ref g, .int sq t1, .int occ t2]) Q E s
set_option maxRecDepth 100000 in
set_option maxHeartbeats 8000000 in
theorem queen_c_q : ∀ x : Ctx × (Int) × (Int) × (Tok) × (Tok), queen_c_P x.1.w x.1.p x.1.loose x.1.mean x.1.mg x.1.mb x.1.dp x.1.un x.1.gd x.1.cn x.1.cs x.1.a x.1.ccd x.1.cl x.1.outer x.1.A₀ x.1.base x.1.h₀ x.1.L x.1.m x.1.s x.1.Q x.1.E x.1.news x.1.g x.1.F x.1.R x.1.T x.2.1 x.2.2.1 x.2.2.2.1 x.2.2.2.2 := by
  refine eps_c ((?_ : ∀ w p loose mean mg mb dp un gd cn cs a ccd cl outer A₀ base h₀ L m s Q E news g F R T sq occ t1 t2, queen_c_P w p loose mean mg mb dp un gd cn cs a ccd cl outer A₀ base h₀ L m s Q E news g F R T sq occ t1 t2) _ _ _ _ _ _ _ _ _ _ _ _ _ _ _ _ _ _ _ _ _ _ _ _ _ _ _ _ _ _ _ _)
  intros w p loose mean mg mb dp un gd cn cs a ccd cl outer A₀ base h₀ L m s Q E news g F R T sq occ t1 t2 B Fr0 X N Tp hk hG hT hF hR hS hsq hd hu hret
  w_top off
  revert X; k_fill; intro X
  refine wpAny_call ?_
  k_dflt (refine' code_def ?k1 ?k2 ?k3 ?k4 ?k5 ?kA ?kF ?kK ?k6 ?k7 ?k8 ?k9 ?kB ?_ ?c2 ?c3 ?c4 ?c5; (case kA => exact rfl); (case kF => exact rfl); (case kK => assumption); (case k1 => k_asm); (case k2 => k_asm); (case k3 => k_asm); (case k4 => k_asm); (case k5 => k_asm); (case k6 => k_is); (case k7 => k_is); (case k8 => (first | exact room2 hd rfl | exact room1 hd rfl | exact room0 hd | ktr_room)); (case k9 => exact BindsTo.of_eq rfl); (case c5 => decide); (case kB => exact locs rfl); (case c2 => exact rfl); (case c3 => exact rfl); (case c4 => exact rfl); k_whole; refine eps3 ((?_ : All3 _) _ _ _); intros g' L' h' FG' F' N' B' X' T'; (try dsimp only))
  (repeat' (first | ((with_reducible show wpAny _ _ (call (Value.ref 127) _) _ _ _); k_dflt (refine' rook_c ?k1 ?k2 ?k3 ?k4 ?k5 ?k6 ?g ?gt ?gf ?gr ?gs ?a1 ?d ?u ?_; (case k1 => k_asm); (case k2 => k_asm); (case k3 => k_asm); (case k4 => k_asm); (case k5 => k_asm); (case k6 => first | exact rfl | assumption); (case g => assumption); (case gt => assumption); (case gf => assumption); (case gr => assumption); (case gs => assumption); (case a1 => (with_reducible assumption)); (case d => (first | exact room2 hd rfl | exact room1 hd rfl | exact room0 hd | ktr_room)); (case u => (dsimp only [ktrTop, units_deeper]; first | exact hu | exact room2 hu rfl | exact room1 hu rfl | omega)); refine eps3 ((?_ : All3 _) _ _ _); intros t9 h9 tk9 F9 N9; (try dsimp only))) | ((with_reducible show wpAny _ _ (call (Value.ref 134) _) _ _ _); k_dflt (refine' bishop_c ?k1 ?k2 ?k3 ?k4 ?k5 ?k6 ?g ?gt ?gf ?gr ?gs ?a1 ?d ?u ?_; (case k1 => k_asm); (case k2 => k_asm); (case k3 => k_asm); (case k4 => k_asm); (case k5 => k_asm); (case k6 => first | exact rfl | assumption); (case g => assumption); (case gt => assumption); (case gf => assumption); (case gr => assumption); (case gs => assumption); (case a1 => (with_reducible assumption)); (case d => (first | exact room2 hd rfl | exact room1 hd rfl | exact room0 hd | ktr_room)); (case u => (dsimp only [ktrTop, units_deeper]; first | exact hu | exact room2 hu rfl | exact room1 hu rfl | omega)); refine eps3 ((?_ : All3 _) _ _ _); intros t9 h9 tk9 F9 N9; (try dsimp only))) | (with_reducible first | refine const_tk ?_ | refine and_tk ?_ | refine or_tk ?_ | refine ior_tk ?_ | refine add_tk ?_ | refine sub_tk ?_ | refine inv_tk ?_) | (k_end; wrow_close) | walk1 | (dsimp only; walk1) | (leave1; (try dsimp only)) | fail "no step"))
  all_goals exact cb_retI hret rfl (by k_asm) (by k_asm)
theorem queen_c {w : World} {p : Program} {loose : List Str} {mean : ExcName → Option Value} {mg mb : Str → Option Value}
  {dp un : Nat} {gd : Option (List Code)} {cn : Str} {cs : Scope} {a : Addr} {ccd : Value} {cl : List (Str × Addr)} {outer : List Env} {A₀ : Around} {base h₀ : Heap} {L : Addr} {m : Str → Option Value} {s : Shared} {Q E : Value → Shared → Prop}
  {news : List (Addr × Obj)} {g : Addr} {F R : Int} {T : Tabs} {sq occ : Int} {t1 t2 : Tok}
  (B : Below A₀ base outer h₀) (Fr0 : Fr h₀ L s.heap m) (X : (hd.heap_39 w.params).In h₀) (N : News h₀ L s.heap news) (Tp : Top p loose mean mg mb h₀) (hk : cs.kind = .function)
  (hG : GeoOk news g F R T) (hT : TabsLen T (F * R)) (hF : 3 ≤ F ∧ F ≤ 6) (hR : 3 ≤ R ∧ R ≤ 6) (hS : F * R ≤ 36) (hsq : 0 ≤ sq ∧ sq < F * R)
  (hd : dp + 5 < recursionLimit) (hu : un + 40 < cLine)
  (hret : ∀ (t : Tok) (h' : Heap) (tk' : Nat), Fr h₀ L h' m → News h₀ L h' news → Q (.int (queenV T sq occ) t) { s with heap := h', toks := tk' }) :
  wpAny (model PySem.Challenge.rw_tg0014_01.row.toRowW.1 w) (ktrTop dp un gd cn cs L a ccd cl outer) (call (.ref 141) [.ref g, .int sq t1, .int occ t2]) Q E s :=
  queen_c_q ⟨⟨w, p, loose, mean, mg, mb, dp, un, gd, cn, cs, a, ccd, cl, outer, A₀, base, h₀, L, m, s, Q, E, news, g, F, R, T, 0, [], 0⟩, sq, occ, t1, t2⟩ B Fr0 X N Tp hk hG hT hF hR hS hsq hd hu hret

set_option maxRecDepth 100000 in
set_option maxHeartbeats 8000000 in
def slider_c_P (w : World) (p : Program) (loose : List Str) (mean : ExcName → Option Value) (mg : Str → Option Value) (mb : Str → Option Value) (dp : Nat) (un : Nat) (gd : Option (List Code)) (cn : Str) (cs : Scope) (a : Addr) (ccd : Value) (cl : List (Str × Addr)) (outer : List Env) (A₀ : Around) (base : Heap) (h₀ : Heap) (L : Addr) (m : Str → Option Value) (s : Shared) (Q : Value → Shared → Prop) (E : Value → Shared → Prop) (news : List (Addr × Obj)) (g : Addr) (F : Int) (R : Int) (T : Tabs) (kind : Int) (sq : Int) (occ : Int) (t0 : Tok) (t1 : Tok) (t2 : Tok) : Prop := ∀ (B : Below A₀ base outer h₀) (Fr0 : Fr h₀ L s.heap m) (X : (hd.heap_39 w.params).In h₀) (N : News h₀ L s.heap news) (Tp : Top p loose mean mg mb h₀) (hk : cs.kind = .function)
  (hG : GeoOk news g F R T) (hT : TabsLen T (F * R)) (hF : 3 ≤ F ∧ F ≤ 6) (hR : 3 ≤ R ∧ R ≤ 6) (hS : F * R ≤ 36) (hkind : 3 ≤ kind ∧ kind ≤ 5) (hsq : 0 ≤ sq ∧ sq < F * R)
  (hd : dp + 6 < recursionLimit) (hu : un + 48 < cLine)
  (hret : ∀ (t : Tok) (h' : Heap) (tk' : Nat), Fr h₀ L h' m → News h₀ L h' news → Q (.int (if kind = 3 then bishopV T sq occ else if kind = 4 then rookV T sq occ else queenV T sq occ) t) { s with heap := h', toks := tk' }),
  wpAny (model PySem.Challenge.rw_tg0014_01.row.toRowW.1 w) (ktrTop dp un gd cn cs L a ccd cl outer) (call (.ref 148) [.ref g, .int kind t0, .int sq t1, .int occ t2]) Q E s
set_option maxRecDepth 100000 in
set_option maxHeartbeats 8000000 in
theorem slider_c_q : ∀ x : Ctx × (Int) × (Int) × (Int) × (Tok) × (Tok) × (Tok), slider_c_P x.1.w x.1.p x.1.loose x.1.mean x.1.mg x.1.mb x.1.dp x.1.un x.1.gd x.1.cn x.1.cs x.1.a x.1.ccd x.1.cl x.1.outer x.1.A₀ x.1.base x.1.h₀ x.1.L x.1.m x.1.s x.1.Q x.1.E x.1.news x.1.g x.1.F x.1.R x.1.T x.2.1 x.2.2.1 x.2.2.2.1 x.2.2.2.2.1 x.2.2.2.2.2.1 x.2.2.2.2.2.2 := by
  refine eps_c ((?_ : ∀ w p loose mean mg mb dp un gd cn cs a ccd cl outer A₀ base h₀ L m s Q E news g F R T kind sq occ t0 t1 t2, slider_c_P w p loose mean mg mb dp un gd cn cs a ccd cl outer A₀ base h₀ L m s Q E news g F R T kind sq occ t0 t1 t2) _ _ _ _ _ _ _ _ _ _ _ _ _ _ _ _ _ _ _ _ _ _ _ _ _ _ _ _ _ _ _ _ _ _)
  intros w p loose mean mg mb dp un gd cn cs a ccd cl outer A₀ base h₀ L m s Q E news g F R T kind sq occ t0 t1 t2 B Fr0 X N Tp hk hG hT hF hR hS hkind hsq hd hu hret
  w_top off
  revert X; k_fill; intro X
  have hc := mids hkind
  rcases hc with rfl | rfl | rfl
  all_goals (
    refine wpAny_call ?_
    k_dflt ktr_enter
    (repeat' (first | ((with_reducible show wpAny _ _ (call (Value.ref 127) _) _ _ _); k_dflt (refine' rook_c ?k1 ?k2 ?k3 ?k4 ?k5 ?k6 ?g ?gt ?gf ?gr ?gs ?a1 ?d ?u ?_; (case k1 => k_asm); (case k2 => k_asm); (case k3 => k_asm); (case k4 => k_asm); (case k5 => k_asm); (case k6 => first | exact rfl | assumption); (case g => assumption); (case gt => assumption); (case gf => assumption); (case gr => assumption); (case gs => assumption); (case a1 => (with_reducible assumption)); (case d => (first | exact room2 hd rfl | exact room1 hd rfl | exact room0 hd | ktr_room)); (case u => (dsimp only [ktrTop, units_deeper]; first | exact hu | exact room2 hu rfl | exact room1 hu rfl | omega)); refine eps3 ((?_ : All3 _) _ _ _); intros t9 h9 tk9 F9 N9; (try dsimp only))) | ((with_reducible show wpAny _ _ (call (Value.ref 134) _) _ _ _); k_dflt (refine' bishop_c ?k1 ?k2 ?k3 ?k4 ?k5 ?k6 ?g ?gt ?gf ?gr ?gs ?a1 ?d ?u ?_; (case k1 => k_asm); (case k2 => k_asm); (case k3 => k_asm); (case k4 => k_asm); (case k5 => k_asm); (case k6 => first | exact rfl | assumption); (case g => assumption); (case gt => assumption); (case gf => assumption); (case gr => assumption); (case gs => assumption); (case a1 => (with_reducible assumption)); (case d => (first | exact room2 hd rfl | exact room1 hd rfl | exact room0 hd | ktr_room)); (case u => (dsimp only [ktrTop, units_deeper]; first | exact hu | exact room2 hu rfl | exact room1 hu rfl | omega)); refine eps3 ((?_ : All3 _) _ _ _); intros t9 h9 tk9 F9 N9; (try dsimp only))) | ((with_reducible show wpAny _ _ (call (Value.ref 141) _) _ _ _); k_dflt (refine' queen_c ?k1 ?k2 ?k3 ?k4 ?k5 ?k6 ?g ?gt ?gf ?gr ?gs ?a1 ?d ?u ?_; (case k1 => k_asm); (case k2 => k_asm); (case k3 => k_asm); (case k4 => k_asm); (case k5 => k_asm); (case k6 => first | exact rfl | assumption); (case g => assumption); (case gt => assumption); (case gf => assumption); (case gr => assumption); (case gs => assumption); (case a1 => (with_reducible assumption)); (case d => (first | exact room2 hd rfl | exact room1 hd rfl | exact room0 hd | ktr_room)); (case u => (dsimp only [ktrTop, units_deeper]; first | exact hu | exact room2 hu rfl | exact room1 hu rfl | omega)); refine eps3 ((?_ : All3 _) _ _ _); intros t9 h9 tk9 F9 N9; (try dsimp only))) | (k_end; wrow_close) | walk1 | (dsimp only; walk1) | (leave1; (try dsimp only)) | fail "no step"))
    all_goals exact cb_retI hret rfl (by k_asm) (by k_asm))
theorem slider_c {w : World} {p : Program} {loose : List Str} {mean : ExcName → Option Value} {mg mb : Str → Option Value}
  {dp un : Nat} {gd : Option (List Code)} {cn : Str} {cs : Scope} {a : Addr} {ccd : Value} {cl : List (Str × Addr)} {outer : List Env} {A₀ : Around} {base h₀ : Heap} {L : Addr} {m : Str → Option Value} {s : Shared} {Q E : Value → Shared → Prop}
  {news : List (Addr × Obj)} {g : Addr} {F R : Int} {T : Tabs} {kind sq occ : Int} {t0 t1 t2 : Tok}
  (B : Below A₀ base outer h₀) (Fr0 : Fr h₀ L s.heap m) (X : (hd.heap_39 w.params).In h₀) (N : News h₀ L s.heap news) (Tp : Top p loose mean mg mb h₀) (hk : cs.kind = .function)
  (hG : GeoOk news g F R T) (hT : TabsLen T (F * R)) (hF : 3 ≤ F ∧ F ≤ 6) (hR : 3 ≤ R ∧ R ≤ 6) (hS : F * R ≤ 36) (hkind : 3 ≤ kind ∧ kind ≤ 5) (hsq : 0 ≤ sq ∧ sq < F * R)
  (hd : dp + 6 < recursionLimit) (hu : un + 48 < cLine)
  (hret : ∀ (t : Tok) (h' : Heap) (tk' : Nat), Fr h₀ L h' m → News h₀ L h' news → Q (.int (if kind = 3 then bishopV T sq occ else if kind = 4 then rookV T sq occ else queenV T sq occ) t) { s with heap := h', toks := tk' }) :
  wpAny (model PySem.Challenge.rw_tg0014_01.row.toRowW.1 w) (ktrTop dp un gd cn cs L a ccd cl outer) (call (.ref 148) [.ref g, .int kind t0, .int sq t1, .int occ t2]) Q E s :=
  slider_c_q ⟨⟨w, p, loose, mean, mg, mb, dp, un, gd, cn, cs, a, ccd, cl, outer, A₀, base, h₀, L, m, s, Q, E, news, g, F, R, T, 0, [], 0⟩, kind, sq, occ, t0, t1, t2⟩ B Fr0 X N Tp hk hG hT hF hR hS hkind hsq hd hu hret

set_option maxRecDepth 100000 in
set_option maxHeartbeats 8000000 in
def piece_c_P (w : World) (p : Program) (loose : List Str) (mean : ExcName → Option Value) (mg : Str → Option Value) (mb : Str → Option Value) (dp : Nat) (un : Nat) (gd : Option (List Code)) (cn : Str) (cs : Scope) (a : Addr) (ccd : Value) (cl : List (Str × Addr)) (outer : List Env) (A₀ : Around) (base : Heap) (h₀ : Heap) (L : Addr) (m : Str → Option Value) (s : Shared) (Q : Value → Shared → Prop) (E : Value → Shared → Prop) (news : List (Addr × Obj)) (g : Addr) (F : Int) (R : Int) (T : Tabs) (side : Int) (kind : Int) (sq : Int) (occ : Int) (t0 : Tok) (t1 : Tok) (t2 : Tok) (t3 : Tok) : Prop := ∀ (B : Below A₀ base outer h₀) (Fr0 : Fr h₀ L s.heap m) (X : (hd.heap_39 w.params).In h₀) (N : News h₀ L s.heap news) (Tp : Top p loose mean mg mb h₀) (hk : cs.kind = .function)
  (hG : GeoOk news g F R T) (hT : TabsLen T (F * R)) (hF : 3 ≤ F ∧ F ≤ 6) (hR : 3 ≤ R ∧ R ≤ 6) (hS : F * R ≤ 36) (hside : 0 ≤ side ∧ side ≤ 1) (hkind : 1 ≤ kind ∧ kind ≤ 6) (hsq : 0 ≤ sq ∧ sq < F * R)
  (hd : dp + 7 < recursionLimit) (hu : un + 56 < cLine)
  (hret : ∀ (t : Tok) (h' : Heap) (tk' : Nat), Fr h₀ L h' m → News h₀ L h' news → Q (.int (pieceV T side kind sq occ) t) { s with heap := h', toks := tk' }),
  wpAny (model PySem.Challenge.rw_tg0014_01.row.toRowW.1 w) (ktrTop dp un gd cn cs L a ccd cl outer) (call (.ref 155) [.ref g, .int side t3, .int kind t0, .int sq t1, .int occ t2]) Q E s
set_option maxRecDepth 100000 in
set_option maxHeartbeats 8000000 in
theorem piece_c_q : ∀ x : Ctx × (Int) × (Int) × (Int) × (Int) × (Tok) × (Tok) × (Tok) × (Tok), piece_c_P x.1.w x.1.p x.1.loose x.1.mean x.1.mg x.1.mb x.1.dp x.1.un x.1.gd x.1.cn x.1.cs x.1.a x.1.ccd x.1.cl x.1.outer x.1.A₀ x.1.base x.1.h₀ x.1.L x.1.m x.1.s x.1.Q x.1.E x.1.news x.1.g x.1.F x.1.R x.1.T x.2.1 x.2.2.1 x.2.2.2.1 x.2.2.2.2.1 x.2.2.2.2.2.1 x.2.2.2.2.2.2.1 x.2.2.2.2.2.2.2.1 x.2.2.2.2.2.2.2.2 := by
  refine eps_c ((?_ : ∀ w p loose mean mg mb dp un gd cn cs a ccd cl outer A₀ base h₀ L m s Q E news g F R T side kind sq occ t0 t1 t2 t3, piece_c_P w p loose mean mg mb dp un gd cn cs a ccd cl outer A₀ base h₀ L m s Q E news g F R T side kind sq occ t0 t1 t2 t3) _ _ _ _ _ _ _ _ _ _ _ _ _ _ _ _ _ _ _ _ _ _ _ _ _ _ _ _ _ _ _ _ _ _ _ _)
  intros w p loose mean mg mb dp un gd cn cs a ccd cl outer A₀ base h₀ L m s Q E news g F R T side kind sq occ t0 t1 t2 t3 B Fr0 X N Tp hk hG hT hF hR hS hside hkind hsq hd hu hret
  w_top off
  revert X; k_fill; intro X
  refine GeoOk.use hG ((?_ : GeoAll _ _ _ _ _ _) _ _ _ _ _ _ _ _ _ _ _ _ _ _ _ _ _ _ _ _ _ _); intros dg es ng uF uS rA rs nr kA kv kn nA nv nn pA np p0 v0 n0 p1 v1 n1 hx0; obtain ⟨h1, h2, h3, h4, h5, h6, h7, h8, h9, h10, h11, h12, h13, h14, h15, h16, h17, h18, h19⟩ := hx0
  have hl1 := hT.king
  have hl2 := hT.knight
  have hl3 := hT.pawn0
  have hl4 := hT.pawn1
  have hc := kinds hkind
  have hs := sides hside
  rcases hc with rfl | rfl | rfl | rfl | rfl | rfl
  · rcases hs with rfl | rfl
    all_goals (
      refine wpAny_call ?_
      k_dflt ktr_enter
      (repeat' (first | ((with_reducible show wpAny _ _ (getAttr (Value.ref _) _ _) _ _ _); k_dflt (refine' get_own ?k1 ?k2 ?k3 ?k4 ?k5 ?k6 ?k7 ?k8 ?k9 ?_; (case k1 => k_asm); (case k2 => k_asm); (case k3 => k_inst); (case k4 => k_is); (case k5 => k_is); (case k6 => k_is); (case k7 => k_is); (case k8 => first | (with_reducible assumption) | exact (getL_put_ne (by decide) _).trans (by with_reducible assumption) | exact getL_put_self _); (case k9 => k_handed); k_whole)) | ((with_reducible show wpAny _ _ (subscriptTail _ _ (Value.ref _) (Value.int _ _)) _ _ _); k_dflt (refine' ksa_sub ?k1 ?k2 ?k3 ?k4 ?k5 ?k6 ?_ ?k7; (case k1 => k_asm); (case k2 => k_mem); (case k3 => with_reducible assumption); (case k4 => (first | exact And.left (by with_reducible assumption) | exact lt_len (by with_reducible assumption) (by first | with_reducible assumption | exact And.right (by with_reducible assumption) | exact in_hi (by with_reducible assumption) (by with_reducible assumption)) | exact lt63 (by with_reducible assumption) (by first | with_reducible assumption | exact And.right (by with_reducible assumption) | exact in_hi (by with_reducible assumption) (by with_reducible assumption)))); (case k5 => (first | exact And.left (by with_reducible assumption) | exact lt_len (by with_reducible assumption) (by first | with_reducible assumption | exact And.right (by with_reducible assumption) | exact in_hi (by with_reducible assumption) (by with_reducible assumption)) | exact lt63 (by with_reducible assumption) (by first | with_reducible assumption | exact And.right (by with_reducible assumption) | exact in_hi (by with_reducible assumption) (by with_reducible assumption)))); (case k6 => (first | exact And.left (by with_reducible assumption) | exact lt_len (by with_reducible assumption) (by first | with_reducible assumption | exact And.right (by with_reducible assumption) | exact in_hi (by with_reducible assumption) (by with_reducible assumption)) | exact lt63 (by with_reducible assumption) (by first | with_reducible assumption | exact And.right (by with_reducible assumption) | exact in_hi (by with_reducible assumption) (by with_reducible assumption)))); (case k7 => with_unfolding_all rfl); k_whole); refine eps1 ((?_ : All1 _) _); intros t9; delta At1; (try dsimp only)) | (k_end; wrow_close) | walk1 | (dsimp only; walk1) | (leave1; (try dsimp only)) | fail "no step"))
      all_goals exact cb_retI hret rfl (by k_asm) (by k_asm))
  all_goals (
    refine wpAny_call ?_
    k_dflt ktr_enter
    (repeat' (first | ((with_reducible show wpAny _ _ (call (Value.ref 148) _) _ _ _); k_dflt (refine' slider_c ?k1 ?k2 ?k3 ?k4 ?k5 ?k6 ?g ?gt ?gf ?gr ?gs ?a0 ?a1 ?d ?u ?_; (case k1 => k_asm); (case k2 => k_asm); (case k3 => k_asm); (case k4 => k_asm); (case k5 => k_asm); (case k6 => first | exact rfl | assumption); (case g => assumption); (case gt => assumption); (case gf => assumption); (case gr => assumption); (case gs => assumption); (case a0 => (first | with_reducible assumption | decide)); (case a1 => (first | with_reducible assumption | decide)); (case d => (first | exact room2 hd rfl | exact room1 hd rfl | exact room0 hd | ktr_room)); (case u => (dsimp only [ktrTop, units_deeper]; first | exact hu | exact room2 hu rfl | exact room1 hu rfl | omega)); refine eps3 ((?_ : All3 _) _ _ _); intros t9 h9 tk9 F9 N9; (try dsimp only))) | ((with_reducible show wpAny _ _ (getAttr (Value.ref _) _ _) _ _ _); k_dflt (refine' get_own ?k1 ?k2 ?k3 ?k4 ?k5 ?k6 ?k7 ?k8 ?k9 ?_; (case k1 => k_asm); (case k2 => k_asm); (case k3 => k_inst); (case k4 => k_is); (case k5 => k_is); (case k6 => k_is); (case k7 => k_is); (case k8 => first | (with_reducible assumption) | exact (getL_put_ne (by decide) _).trans (by with_reducible assumption) | exact getL_put_self _); (case k9 => k_handed); k_whole)) | ((with_reducible show wpAny _ _ (subscriptTail _ _ (Value.ref _) (Value.int _ _)) _ _ _); k_dflt (refine' ksa_sub ?k1 ?k2 ?k3 ?k4 ?k5 ?k6 ?_ ?k7; (case k1 => k_asm); (case k2 => k_mem); (case k3 => with_reducible assumption); (case k4 => (first | exact And.left (by with_reducible assumption) | exact lt_len (by with_reducible assumption) (by first | with_reducible assumption | exact And.right (by with_reducible assumption) | exact in_hi (by with_reducible assumption) (by with_reducible assumption)) | exact lt63 (by with_reducible assumption) (by first | with_reducible assumption | exact And.right (by with_reducible assumption) | exact in_hi (by with_reducible assumption) (by with_reducible assumption)))); (case k5 => (first | exact And.left (by with_reducible assumption) | exact lt_len (by with_reducible assumption) (by first | with_reducible assumption | exact And.right (by with_reducible assumption) | exact in_hi (by with_reducible assumption) (by with_reducible assumption)) | exact lt63 (by with_reducible assumption) (by first | with_reducible assumption | exact And.right (by with_reducible assumption) | exact in_hi (by with_reducible assumption) (by with_reducible assumption)))); (case k6 => (first | exact And.left (by with_reducible assumption) | exact lt_len (by with_reducible assumption) (by first | with_reducible assumption | exact And.right (by with_reducible assumption) | exact in_hi (by with_reducible assumption) (by with_reducible assumption)) | exact lt63 (by with_reducible assumption) (by first | with_reducible assumption | exact And.right (by with_reducible assumption) | exact in_hi (by with_reducible assumption) (by with_reducible assumption)))); (case k7 => with_unfolding_all rfl); k_whole); refine eps1 ((?_ : All1 _) _); intros t9; delta At1; (try dsimp only)) | (k_end; wrow_close) | walk1 | (dsimp only; walk1) | (leave1; (try dsimp only)) | fail "no step"))
    all_goals exact cb_retI hret rfl (by k_asm) (by k_asm))
theorem piece_c {w : World} {p : Program} {loose : List Str} {mean : ExcName → Option Value} {mg mb : Str → Option Value}
  {dp un : Nat} {gd : Option (List Code)} {cn : Str} {cs : Scope} {a : Addr} {ccd : Value} {cl : List (Str × Addr)} {outer : List Env} {A₀ : Around} {base h₀ : Heap} {L : Addr} {m : Str → Option Value} {s : Shared} {Q E : Value → Shared → Prop}
  {news : List (Addr × Obj)} {g : Addr} {F R : Int} {T : Tabs} {side kind sq occ : Int} {t0 t1 t2 t3 : Tok}
  (B : Below A₀ base outer h₀) (Fr0 : Fr h₀ L s.heap m) (X : (hd.heap_39 w.params).In h₀) (N : News h₀ L s.heap news) (Tp : Top p loose mean mg mb h₀) (hk : cs.kind = .function)
  (hG : GeoOk news g F R T) (hT : TabsLen T (F * R)) (hF : 3 ≤ F ∧ F ≤ 6) (hR : 3 ≤ R ∧ R ≤ 6) (hS : F * R ≤ 36) (hside : 0 ≤ side ∧ side ≤ 1) (hkind : 1 ≤ kind ∧ kind ≤ 6) (hsq : 0 ≤ sq ∧ sq < F * R)
  (hd : dp + 7 < recursionLimit) (hu : un + 56 < cLine)
  (hret : ∀ (t : Tok) (h' : Heap) (tk' : Nat), Fr h₀ L h' m → News h₀ L h' news → Q (.int (pieceV T side kind sq occ) t) { s with heap := h', toks := tk' }) :
  wpAny (model PySem.Challenge.rw_tg0014_01.row.toRowW.1 w) (ktrTop dp un gd cn cs L a ccd cl outer) (call (.ref 155) [.ref g, .int side t3, .int kind t0, .int sq t1, .int occ t2]) Q E s :=
  piece_c_q ⟨⟨w, p, loose, mean, mg, mb, dp, un, gd, cn, cs, a, ccd, cl, outer, A₀, base, h₀, L, m, s, Q, E, news, g, F, R, T, 0, [], 0⟩, side, kind, sq, occ, t0, t1, t2, t3⟩ B Fr0 X N Tp hk hG hT hF hR hS hside hkind hsq hd hu hret

set_option maxRecDepth 100000 in
set_option maxHeartbeats 8000000 in
def colour_c_P (w : World) (p : Program) (loose : List Str) (mean : ExcName → Option Value) (mg : Str → Option Value) (mb : Str → Option Value) (dp : Nat) (un : Nat) (gd : Option (List Code)) (cn : Str) (cs : Scope) (a : Addr) (ccd : Value) (cl : List (Str × Addr)) (outer : List Env) (A₀ : Around) (base : Heap) (h₀ : Heap) (L : Addr) (m : Str → Option Value) (s : Shared) (Q : Value → Shared → Prop) (E : Value → Shared → Prop) (news : List (Addr × Obj)) (g : Addr) (F : Int) (R : Int) (T : Tabs) (sq : Int) (t1 : Tok) : Prop := ∀ (B : Below A₀ base outer h₀) (Fr0 : Fr h₀ L s.heap m) (X : (hd.heap_39 w.params).In h₀) (N : News h₀ L s.heap news) (Tp : Top p loose mean mg mb h₀) (hk : cs.kind = .function)
  (hG : GeoOk news g F R T) (hT : TabsLen T (F * R)) (hF : 3 ≤ F ∧ F ≤ 6) (hR : 3 ≤ R ∧ R ≤ 6) (hS : F * R ≤ 36) (hsq : 0 ≤ sq ∧ sq < F * R)
  (hd : dp + 2 < recursionLimit) (hu : un + 16 < cLine)
  (hret : ∀ (t : Tok) (h' : Heap) (tk' : Nat), Fr h₀ L h' m → News h₀ L h' news → Q (.int (colourV F sq) t) { s with heap := h', toks := tk' }),
  wpAny (model PySem.Challenge.rw_tg0014_01.row.toRowW.1 w) (ktrTop dp un gd cn cs L a ccd cl outer) (call (.ref 162) [.ref g, .int sq t1]) Q E s
set_option maxRecDepth 100000 in
set_option maxHeartbeats 8000000 in
theorem colour_c_q : ∀ x : Ctx × (Int) × (Tok), colour_c_P x.1.w x.1.p x.1.loose x.1.mean x.1.mg x.1.mb x.1.dp x.1.un x.1.gd x.1.cn x.1.cs x.1.a x.1.ccd x.1.cl x.1.outer x.1.A₀ x.1.base x.1.h₀ x.1.L x.1.m x.1.s x.1.Q x.1.E x.1.news x.1.g x.1.F x.1.R x.1.T x.2.1 x.2.2 := by
  refine eps_c ((?_ : ∀ w p loose mean mg mb dp un gd cn cs a ccd cl outer A₀ base h₀ L m s Q E news g F R T sq t1, colour_c_P w p loose mean mg mb dp un gd cn cs a ccd cl outer A₀ base h₀ L m s Q E news g F R T sq t1) _ _ _ _ _ _ _ _ _ _ _ _ _ _ _ _ _ _ _ _ _ _ _ _ _ _ _ _ _ _)
  intros w p loose mean mg mb dp un gd cn cs a ccd cl outer A₀ base h₀ L m s Q E news g F R T sq t1 B Fr0 X N Tp hk hG hT hF hR hS hsq hd hu hret
  w_top off
  revert X; k_fill; intro X
  refine GeoOk.use hG ((?_ : GeoAll _ _ _ _ _ _) _ _ _ _ _ _ _ _ _ _ _ _ _ _ _ _ _ _ _ _ _ _); intros dg es ng uF uS rA rs nr kA kv kn nA nv nn pA np p0 v0 n0 p1 v1 n1 hx0; obtain ⟨h1, h2, h3, h4, h5, h6, h7, h8, h9, h10, h11, h12, h13, h14, h15, h16, h17, h18, h19⟩ := hx0
  refine wpAny_call ?_
  k_dflt (refine' code_def ?k1 ?k2 ?k3 ?k4 ?k5 ?kA ?kF ?kK ?k6 ?k7 ?k8 ?k9 ?kB ?_ ?c2 ?c3 ?c4 ?c5; (case kA => exact rfl); (case kF => exact rfl); (case kK => assumption); (case k1 => k_asm); (case k2 => k_asm); (case k3 => k_asm); (case k4 => k_asm); (case k5 => k_asm); (case k6 => k_is); (case k7 => k_is); (case k8 => (first | exact room2 hd rfl | exact room1 hd rfl | exact room0 hd | ktr_room)); (case k9 => exact BindsTo.of_eq rfl); (case c5 => decide); (case kB => exact locs rfl); (case c2 => exact rfl); (case c3 => exact rfl); (case c4 => exact rfl); k_whole; refine eps3 ((?_ : All3 _) _ _ _); intros g' L' h' FG' F' N' B' X' T'; (try dsimp only))
  (repeat' (first | (with_reducible first | refine const_tk ?_ | refine and_tk ?_ | refine or_tk ?_ | refine ior_tk ?_ | refine add_tk ?_ | refine sub_tk ?_ | refine inv_tk ?_) | ((with_reducible show wpAny _ _ (getAttr (Value.ref _) _ _) _ _ _); k_dflt (refine' get_own ?k1 ?k2 ?k3 ?k4 ?k5 ?k6 ?k7 ?k8 ?k9 ?_; (case k1 => k_asm); (case k2 => k_asm); (case k3 => k_inst); (case k4 => k_is); (case k5 => k_is); (case k6 => k_is); (case k7 => k_is); (case k8 => first | (with_reducible assumption) | exact (getL_put_ne (by decide) _).trans (by with_reducible assumption) | exact getL_put_self _); (case k9 => k_handed); k_whole)) | (k_end; wrow_close) | walk1 | (dsimp only; walk1) | (leave1; (try dsimp only)) | fail "no step"))
  all_goals exact cb_retI hret rfl (by k_asm) (by k_asm)
theorem colour_c {w : World} {p : Program} {loose : List Str} {mean : ExcName → Option Value} {mg mb : Str → Option Value}
  {dp un : Nat} {gd : Option (List Code)} {cn : Str} {cs : Scope} {a : Addr} {ccd : Value} {cl : List (Str × Addr)} {outer : List Env} {A₀ : Around} {base h₀ : Heap} {L : Addr} {m : Str → Option Value} {s : Shared} {Q E : Value → Shared → Prop}
  {news : List (Addr × Obj)} {g : Addr} {F R : Int} {T : Tabs} {sq : Int} {t1 : Tok}
  (B : Below A₀ base outer h₀) (Fr0 : Fr h₀ L s.heap m) (X : (hd.heap_39 w.params).In h₀) (N : News h₀ L s.heap news) (Tp : Top p loose mean mg mb h₀) (hk : cs.kind = .function)
  (hG : GeoOk news g F R T) (hT : TabsLen T (F * R)) (hF : 3 ≤ F ∧ F ≤ 6) (hR : 3 ≤ R ∧ R ≤ 6) (hS : F * R ≤ 36) (hsq : 0 ≤ sq ∧ sq < F * R)
  (hd : dp + 2 < recursionLimit) (hu : un + 16 < cLine)
  (hret : ∀ (t : Tok) (h' : Heap) (tk' : Nat), Fr h₀ L h' m → News h₀ L h' news → Q (.int (colourV F sq) t) { s with heap := h', toks := tk' }) :
  wpAny (model PySem.Challenge.rw_tg0014_01.row.toRowW.1 w) (ktrTop dp un gd cn cs L a ccd cl outer) (call (.ref 162) [.ref g, .int sq t1]) Q E s :=
  colour_c_q ⟨⟨w, p, loose, mean, mg, mb, dp, un, gd, cn, cs, a, ccd, cl, outer, A₀, base, h₀, L, m, s, Q, E, news, g, F, R, T, 0, [], 0⟩, sq, t1⟩ B Fr0 X N Tp hk hG hT hF hR hS hsq hd hu hret

set_option maxRecDepth 100000 in
set_option maxHeartbeats 8000000 in
def dist_c_P (w : World) (p : Program) (loose : List Str) (mean : ExcName → Option Value) (mg : Str → Option Value) (mb : Str → Option Value) (dp : Nat) (un : Nat) (gd : Option (List Code)) (cn : Str) (cs : Scope) (a : Addr) (ccd : Value) (cl : List (Str × Addr)) (outer : List Env) (A₀ : Around) (base : Heap) (h₀ : Heap) (L : Addr) (m : Str → Option Value) (s : Shared) (Q : Value → Shared → Prop) (E : Value → Shared → Prop) (news : List (Addr × Obj)) (g : Addr) (F : Int) (R : Int) (T : Tabs) (x : Int) (y : Int) (t1 : Tok) (t2 : Tok) : Prop := ∀ (B : Below A₀ base outer h₀) (Fr0 : Fr h₀ L s.heap m) (X : (hd.heap_39 w.params).In h₀) (N : News h₀ L s.heap news) (Tp : Top p loose mean mg mb h₀) (hk : cs.kind = .function)
  (hG : GeoOk news g F R T) (hT : TabsLen T (F * R)) (hF : 3 ≤ F ∧ F ≤ 6) (hR : 3 ≤ R ∧ R ≤ 6) (hS : F * R ≤ 36) (hx : 0 ≤ x ∧ x < F * R) (hy : 0 ≤ y ∧ y < F * R)
  (hd : dp + 2 < recursionLimit) (hu : un + 16 < cLine)
  (hret : ∀ (t : Tok) (h' : Heap) (tk' : Nat), Fr h₀ L h' m → News h₀ L h' news → Q (.int (distV F x y) t) { s with heap := h', toks := tk' }),
  wpAny (model PySem.Challenge.rw_tg0014_01.row.toRowW.1 w) (ktrTop dp un gd cn cs L a ccd cl outer) (call (.ref 169) [.ref g, .int x t1, .int y t2]) Q E s
set_option maxRecDepth 100000 in
set_option maxHeartbeats 8000000 in
theorem dist_c_q : ∀ x : Ctx × (Int) × (Int) × (Tok) × (Tok), dist_c_P x.1.w x.1.p x.1.loose x.1.mean x.1.mg x.1.mb x.1.dp x.1.un x.1.gd x.1.cn x.1.cs x.1.a x.1.ccd x.1.cl x.1.outer x.1.A₀ x.1.base x.1.h₀ x.1.L x.1.m x.1.s x.1.Q x.1.E x.1.news x.1.g x.1.F x.1.R x.1.T x.2.1 x.2.2.1 x.2.2.2.1 x.2.2.2.2 := by
  refine eps_c ((?_ : ∀ w p loose mean mg mb dp un gd cn cs a ccd cl outer A₀ base h₀ L m s Q E news g F R T x y t1 t2, dist_c_P w p loose mean mg mb dp un gd cn cs a ccd cl outer A₀ base h₀ L m s Q E news g F R T x y t1 t2) _ _ _ _ _ _ _ _ _ _ _ _ _ _ _ _ _ _ _ _ _ _ _ _ _ _ _ _ _ _ _ _)
  intros w p loose mean mg mb dp un gd cn cs a ccd cl outer A₀ base h₀ L m s Q E news g F R T x y t1 t2 B Fr0 X N Tp hk hG hT hF hR hS hx hy hd hu hret
  w_top off
  revert X; k_fill; intro X
  refine GeoOk.use hG ((?_ : GeoAll _ _ _ _ _ _) _ _ _ _ _ _ _ _ _ _ _ _ _ _ _ _ _ _ _ _ _ _); intros dg es ng uF uS rA rs nr kA kv kn nA nv nn pA np p0 v0 n0 p1 v1 n1 hx0; obtain ⟨h1, h2, h3, h4, h5, h6, h7, h8, h9, h10, h11, h12, h13, h14, h15, h16, h17, h18, h19⟩ := hx0
  refine wpAny_call ?_
  k_dflt (refine' code_def ?k1 ?k2 ?k3 ?k4 ?k5 ?kA ?kF ?kK ?k6 ?k7 ?k8 ?k9 ?kB ?_ ?c2 ?c3 ?c4 ?c5; (case kA => exact rfl); (case kF => exact rfl); (case kK => assumption); (case k1 => k_asm); (case k2 => k_asm); (case k3 => k_asm); (case k4 => k_asm); (case k5 => k_asm); (case k6 => k_is); (case k7 => k_is); (case k8 => (first | exact room2 hd rfl | exact room1 hd rfl | exact room0 hd | ktr_room)); (case k9 => exact BindsTo.of_eq rfl); (case c5 => decide); (case kB => exact locs rfl); (case c2 => exact rfl); (case c3 => exact rfl); (case c4 => exact rfl); k_whole; refine eps3 ((?_ : All3 _) _ _ _); intros g' L' h' FG' F' N' B' X' T'; (try dsimp only))
  (repeat' (first | (with_reducible first | refine const_tk ?_ | refine and_tk ?_ | refine or_tk ?_ | refine ior_tk ?_ | refine add_tk ?_ | refine sub_tk ?_ | refine inv_tk ?_) | ((with_reducible show wpAny _ _ (storeName _ _ _) _ _ _); k_dflt (refine' storeX_L ?sF ?sN ?_ ?sa ?sb; (case sF => k_asm); (case sN => k_asm); (case sa => rfl); (case sb => rfl); k_whole; refine eps1 ((?_ : All1 _) _); intros h' F' N'; (try k_sweep))) | ((with_reducible show wpAny _ _ (getAttr (Value.ref _) _ _) _ _ _); k_dflt (refine' get_own ?k1 ?k2 ?k3 ?k4 ?k5 ?k6 ?k7 ?k8 ?k9 ?_; (case k1 => k_asm); (case k2 => k_asm); (case k3 => k_inst); (case k4 => k_is); (case k5 => k_is); (case k6 => k_is); (case k7 => k_is); (case k8 => first | (with_reducible assumption) | exact (getL_put_ne (by decide) _).trans (by with_reducible assumption) | exact getL_put_self _); (case k9 => k_handed); k_whole)) | ((with_reducible refine call_abs_int ?_); refine eps2 ((?_ : All2 _) _ _); intros _ _; delta At2; (try dsimp only)) | (k_end; wrow_close) | walk1 | (dsimp only; walk1) | (leave1; (try dsimp only)) | fail "no step"))
  all_goals refine cb_retI hret ?_ (by k_asm) (by k_asm)
  all_goals (unfold distV; dsimp only)
  · refine (if_pos ?_).symm; assumption
  · refine (if_neg ?_).symm; assumption
theorem dist_c {w : World} {p : Program} {loose : List Str} {mean : ExcName → Option Value} {mg mb : Str → Option Value}
  {dp un : Nat} {gd : Option (List Code)} {cn : Str} {cs : Scope} {a : Addr} {ccd : Value} {cl : List (Str × Addr)} {outer : List Env} {A₀ : Around} {base h₀ : Heap} {L : Addr} {m : Str → Option Value} {s : Shared} {Q E : Value → Shared → Prop}
  {news : List (Addr × Obj)} {g : Addr} {F R : Int} {T : Tabs} {x y : Int} {t1 t2 : Tok}
  (B : Below A₀ base outer h₀) (Fr0 : Fr h₀ L s.heap m) (X : (hd.heap_39 w.params).In h₀) (N : News h₀ L s.heap news) (Tp : Top p loose mean mg mb h₀) (hk : cs.kind = .function)
  (hG : GeoOk news g F R T) (hT : TabsLen T (F * R)) (hF : 3 ≤ F ∧ F ≤ 6) (hR : 3 ≤ R ∧ R ≤ 6) (hS : F * R ≤ 36) (hx : 0 ≤ x ∧ x < F * R) (hy : 0 ≤ y ∧ y < F * R)
  (hd : dp + 2 < recursionLimit) (hu : un + 16 < cLine)
  (hret : ∀ (t : Tok) (h' : Heap) (tk' : Nat), Fr h₀ L h' m → News h₀ L h' news → Q (.int (distV F x y) t) { s with heap := h', toks := tk' }) :
  wpAny (model PySem.Challenge.rw_tg0014_01.row.toRowW.1 w) (ktrTop dp un gd cn cs L a ccd cl outer) (call (.ref 169) [.ref g, .int x t1, .int y t2]) Q E s :=
  dist_c_q ⟨⟨w, p, loose, mean, mg, mb, dp, un, gd, cn, cs, a, ccd, cl, outer, A₀, base, h₀, L, m, s, Q, E, news, g, F, R, T, 0, [], 0⟩, x, y, t1, t2⟩ B Fr0 X N Tp hk hG hT hF hR hS hx hy hd hu hret

set_option maxRecDepth 100000 in
set_option maxHeartbeats 8000000 in
def seen_c_P (w : World) (p : Program) (loose : List Str) (mean : ExcName → Option Value) (mg : Str → Option Value) (mb : Str → Option Value) (dp : Nat) (un : Nat) (gd : Option (List Code)) (cn : Str) (cs : Scope) (a : Addr) (ccd : Value) (cl : List (Str × Addr)) (outer : List Env) (A₀ : Around) (base : Heap) (h₀ : Heap) (L : Addr) (m : Str → Option Value) (s : Shared) (Q : Value → Shared → Prop) (E : Value → Shared → Prop) (news : List (Addr × Obj)) (g : Addr) (F : Int) (R : Int) (T : Tabs) (side : Int) (kind : Int) (sq : Int) (occ : Int) (t0 : Tok) (t1 : Tok) (t2 : Tok) (t3 : Tok) : Prop := ∀ (B : Below A₀ base outer h₀) (Fr0 : Fr h₀ L s.heap m) (X : (hd.heap_39 w.params).In h₀) (N : News h₀ L s.heap news) (Tp : Top p loose mean mg mb h₀) (hk : cs.kind = .function)
  (hG : GeoOk news g F R T) (hT : TabsLen T (F * R)) (hF : 3 ≤ F ∧ F ≤ 6) (hR : 3 ≤ R ∧ R ≤ 6) (hS : F * R ≤ 36) (hside : 0 ≤ side ∧ side ≤ 1) (hkind : 1 ≤ kind ∧ kind ≤ 6) (hsq : 0 ≤ sq ∧ sq < F * R)
  (hd : dp + 8 < recursionLimit) (hu : un + 64 < cLine)
  (hret : ∀ (D : Addr) (ys : List Value) (h' : Heap) (tk' : Nat), Fr h₀ L h' m → News h₀ L h' ((D, LCg.lst ys) :: news) → (∀ p ∈ news, p.1 ≠ D) → IntsAre ys (seenV T (F * R).toNat side kind sq occ) → Q (.ref D) { s with heap := h', toks := tk' }),
  wpAny (model PySem.Challenge.rw_tg0014_01.row.toRowW.1 w) (ktrTop dp un gd cn cs L a ccd cl outer) (call (.ref 181) [.ref g, .int side t3, .int kind t0, .int sq t1, .int occ t2]) Q E s
set_option maxRecDepth 100000 in
set_option maxHeartbeats 8000000 in
theorem seen_c_q : ∀ x : Ctx × (Int) × (Int) × (Int) × (Int) × (Tok) × (Tok) × (Tok) × (Tok), seen_c_P x.1.w x.1.p x.1.loose x.1.mean x.1.mg x.1.mb x.1.dp x.1.un x.1.gd x.1.cn x.1.cs x.1.a x.1.ccd x.1.cl x.1.outer x.1.A₀ x.1.base x.1.h₀ x.1.L x.1.m x.1.s x.1.Q x.1.E x.1.news x.1.g x.1.F x.1.R x.1.T x.2.1 x.2.2.1 x.2.2.2.1 x.2.2.2.2.1 x.2.2.2.2.2.1 x.2.2.2.2.2.2.1 x.2.2.2.2.2.2.2.1 x.2.2.2.2.2.2.2.2 := by
  refine eps_c ((?_ : ∀ w p loose mean mg mb dp un gd cn cs a ccd cl outer A₀ base h₀ L m s Q E news g F R T side kind sq occ t0 t1 t2 t3, seen_c_P w p loose mean mg mb dp un gd cn cs a ccd cl outer A₀ base h₀ L m s Q E news g F R T side kind sq occ t0 t1 t2 t3) _ _ _ _ _ _ _ _ _ _ _ _ _ _ _ _ _ _ _ _ _ _ _ _ _ _ _ _ _ _ _ _ _ _ _ _)
  intros w p loose mean mg mb dp un gd cn cs a ccd cl outer A₀ base h₀ L m s Q E news g F R T side kind sq occ t0 t1 t2 t3 B Fr0 X N Tp hk hG hT hF hR hS hside hkind hsq hd hu hret
  w_top off
  revert X; k_fill; intro X
  refine GeoOk.use hG ((?_ : GeoAll _ _ _ _ _ _) _ _ _ _ _ _ _ _ _ _ _ _ _ _ _ _ _ _ _ _ _ _); intros dg es ng uF uS rA rs nr kA kv kn nA nv nn pA np p0 v0 n0 p1 v1 n1 hx0; obtain ⟨h1, h2, h3, h4, h5, h6, h7, h8, h9, h10, h11, h12, h13, h14, h15, h16, h17, h18, h19⟩ := hx0
  have hN0 : 0 ≤ F * R := Int.le_of_lt (Int.lt_of_le_of_lt hsq.1 hsq.2)
  refine wpAny_call ?_
  k_dflt (refine' code_defC ?k1 ?k2 ?k3 ?k4 ?k5 ?kA ?kF ?kK ?k6 ?k7 ?k8 ?k9 ?kB ?kD ?_ ?c2 ?c3 ?c4; (case kA => exact rfl); (case kF => exact rfl); (case kK => assumption); (case k1 => k_asm); (case k2 => k_asm); (case k3 => k_asm); (case k4 => k_asm); (case k5 => k_asm); (case k6 => k_is); (case k7 => k_is); (case k8 => (first | exact room2 hd rfl | exact room1 hd rfl | exact room0 hd | ktr_room)); (case k9 => exact BindsTo.of_eq rfl); (case kB => exact rfl); (case kD => decide +kernel); (case c2 => exact rfl); (case c3 => exact rfl); (case c4 => exact rfl); k_whole)
  refine eps5 ((?_ : All5 _) _ _ _ _ _); intros g' L' h' tk' cells' FG' F' N' Y' B' X' T' l1
  have hne : ∀ p ∈ news, p.1 ≠ L' + 1 := fun p hp => by have h0 : p.1 < L' := l1 p hp; have h9 : p.1 ≠ L' + 1 := Nat.ne_of_lt (Nat.lt_succ_of_lt h0); exact h9
  refine exs1 (CellsAre.one Y') ((?_ : All1 _) _); intros o' hx0; obtain ⟨hE', d1'⟩ := hx0
  subst hE'
  clear Y'
  (try (replace N' := N'; simp only [List.cons_append, List.nil_append] at N'))
  (try dsimp only)
  (repeat' (first | ((with_reducible show wpAny _ _ (call (Value.ref 155) _) _ _ _); k_dflt (refine' piece_c ?k1 ?k2 ?k3 ?k4 ?k5 ?k6 ?g ?gt ?gf ?gr ?gs ?a0 ?a1 ?a2 ?d ?u ?_; (case k1 => k_asm); (case k2 => k_asm); (case k3 => k_asm); (case k4 => k_asm); (case k5 => k_asm); (case k6 => first | exact rfl | assumption); (case g => (refine' GeoOk.cons ?gg; (case gg => assumption))); (case gt => assumption); (case gf => assumption); (case gr => assumption); (case gs => assumption); (case a0 => (with_reducible assumption)); (case a1 => (with_reducible assumption)); (case a2 => (with_reducible assumption)); (case d => (first | exact room2 hd rfl | exact room1 hd rfl | exact room0 hd | ktr_room)); (case u => (dsimp only [ktrTop, units_deeper]; first | exact hu | exact room2 hu rfl | exact room1 hu rfl | omega)); refine eps3 ((?_ : All3 _) _ _ _); intros t9 h9 tk9 F9 N9; (try dsimp only))) | ((with_reducible show wpAny _ _ (getAttr (Value.ref _) _ _) _ _ _); k_dflt (refine' get_own ?k1 ?k2 ?k3 ?k4 ?k5 ?k6 ?k7 ?k8 ?k9 ?_; (case k1 => k_asm); (case k2 => k_asm); (case k3 => k_inst); (case k4 => k_is); (case k5 => k_is); (case k6 => k_is); (case k7 => k_is); (case k8 => first | (with_reducible assumption) | exact (getL_put_ne (by decide) _).trans (by with_reducible assumption) | exact getL_put_self _); (case k9 => k_handed); k_whole)) | ((with_reducible show LCt.CompSrcT ..); refine Stop.out ?_) | ((with_reducible show wpAny _ _ (eval (PySem.Expr.ListComp ..) _) _ _ _); lct_look; k_dflt (refine LCt.ListComp_T (F₀ := by k_asm) (by with_unfolding_all rfl) (by decide) (by rfl) (by decide) (by rfl) ?_)) | ((with_reducible show wpAny _ _ (storeName _ _ _) _ _ _); k_dflt (refine' storeX_C ?F ?N ?c ?U ?d ?_ ?a ?b; (case a => rfl); (case b => rfl); (case F => k_asm); (case N => k_asm); (case c => rfl); (case U => k_updF); (case d => k_asm); k_whole; refine eps2 ((?_ : All2 _) _ _); intros h' o' F' N' d'; (try dsimp only at N'); (try k_sweep))) | ((with_reducible show wpAny _ _ (call (Value.type _) _) _ _ _); (with_reducible rename Fr _ _ _ _ => F8); (with_reducible rename News _ _ _ _ => N8); first | (with_unfolding_all refine range1_rows F8 N8 ?_; refine eps5 ((?_ : All5 _) _ _ _ _ _); intros _ _ _ _ _ _ _ _ _) | (with_unfolding_all refine range2_rows F8 N8 ?_; refine eps5 ((?_ : All5 _) _ _ _ _ _); intros _ _ _ _ _ _ _ _ _) | (with_unfolding_all refine range3_rows F8 N8 (by decide) ?_; refine eps5 ((?_ : All5 _) _ _ _ _ _); intros _ _ _ _ _ _ _ _ _)) | (k_end; wrow_close) | walk1 | (dsimp only; walk1) | (leave1; (try dsimp only)) | fail "no step"))
  refine Stop.mk ?_
  k_dflt (refine LCt.CompSrcT.range (by rfl) (by k_asm) (by k_asm) (by assumption) (small_FR hN0 hS) (rangeSize_nat _ _) (line_FR hS) ?_)
  refine eps1 ((?_ : All1 _) _); intros g9
  delta At1
  refine ct_range (fun i => hasBit (pieceV T side kind sq occ) i) (fun i => i) ?_ ?_
  · refine eps12 ((?_ : All12 _) _ _ _ _ _ _ _ _ _ _ _ _); intros k' t' I' oI' C' oC' D' m' ys' h' tk' E' hlo' hhi' hC' hx' F' N' off' ne'; have hhi9 := range_hi hN0 hhi'; clear hhi'
    (repeat' (first | (with_reducible first | refine const_tk ?_ | refine and_tk ?_ | refine or_tk ?_ | refine ior_tk ?_ | refine add_tk ?_ | refine sub_tk ?_ | refine inv_tk ?_) | ((with_reducible show LCg.CompEnd _ _ _ _ _ _ _ _ _ _ _ (fun y n => CtYes _ _ _ y n) _ _); (refine' ct_yes ?c1 ?c2 ?c3 ?c4 ?c5 ?_ ?c7; (case c1 => k_asm); (case c2 => k_asm); (case c3 => exact fun _ h => h); (case c4 => assumption); (case c5 => first | exact True.intro | assumption | exact Or.inr ⟨_, by k_mem, rfl, _, rfl⟩); (case c7 => rfl))) | ((with_reducible show LCg.CompEnd _ _ _ _ _ _ _ _ _ _ _ (fun y n => CtNo _ _ y n) _ _); (refine' ct_no ?c1 ?c2 ?c3 ?c4 ?c5 ?_; (case c1 => k_asm); (case c2 => k_asm); (case c3 => exact fun _ h => h); (case c4 => assumption); (case c5 => first | exact True.intro | assumption | exact Or.inr ⟨_, by k_mem, rfl, _, rfl⟩))) | (k_end; wrow_close) | walk1 | (dsimp only; walk1) | (leave1; (try dsimp only)) | fail "no step"))
    · simpa only [hasBit, beq_iff_eq]
    · simpa [hasBit]
  · refine eps1 ((?_ : All1 _) _); intros ys hys
    (repeat' (first | ((with_reducible show LCg.FinE ..); unfold LCg.FinE; refine eps3 ((?_ : All3 _) _ _ _); intros D' h' tk' F' N' o1'; (try dsimp only)) | (k_end; wrow_close) | walk1 | (dsimp only; walk1) | (leave1; (try dsimp only)) | fail "no step"))
    refine hret _ _ _ _ (by k_asm) (cb_drop (by assumption) fun p hp => drop2 hp) (by with_reducible rename LCg.Off1 _ _ => h; exact fun p hp => off1_mem h p (List.mem_cons_of_mem _ hp)) ?_
    replace hys := hys; rw [Int.sub_zero, List.map_id'] at hys
    exact hys
theorem seen_c {w : World} {p : Program} {loose : List Str} {mean : ExcName → Option Value} {mg mb : Str → Option Value}
  {dp un : Nat} {gd : Option (List Code)} {cn : Str} {cs : Scope} {a : Addr} {ccd : Value} {cl : List (Str × Addr)} {outer : List Env} {A₀ : Around} {base h₀ : Heap} {L : Addr} {m : Str → Option Value} {s : Shared} {Q E : Value → Shared → Prop}
  {news : List (Addr × Obj)} {g : Addr} {F R : Int} {T : Tabs} {side kind sq occ : Int} {t0 t1 t2 t3 : Tok}
  (B : Below A₀ base outer h₀) (Fr0 : Fr h₀ L s.heap m) (X : (hd.heap_39 w.params).In h₀) (N : News h₀ L s.heap news) (Tp : Top p loose mean mg mb h₀) (hk : cs.kind = .function)
  (hG : GeoOk news g F R T) (hT : TabsLen T (F * R)) (hF : 3 ≤ F ∧ F ≤ 6) (hR : 3 ≤ R ∧ R ≤ 6) (hS : F * R ≤ 36) (hside : 0 ≤ side ∧ side ≤ 1) (hkind : 1 ≤ kind ∧ kind ≤ 6) (hsq : 0 ≤ sq ∧ sq < F * R)
  (hd : dp + 8 < recursionLimit) (hu : un + 64 < cLine)
  (hret : ∀ (D : Addr) (ys : List Value) (h' : Heap) (tk' : Nat), Fr h₀ L h' m → News h₀ L h' ((D, LCg.lst ys) :: news) → (∀ p ∈ news, p.1 ≠ D) → IntsAre ys (seenV T (F * R).toNat side kind sq occ) → Q (.ref D) { s with heap := h', toks := tk' }) :
  wpAny (model PySem.Challenge.rw_tg0014_01.row.toRowW.1 w) (ktrTop dp un gd cn cs L a ccd cl outer) (call (.ref 181) [.ref g, .int side t3, .int kind t0, .int sq t1, .int occ t2]) Q E s :=
  seen_c_q ⟨⟨w, p, loose, mean, mg, mb, dp, un, gd, cn, cs, a, ccd, cl, outer, A₀, base, h₀, L, m, s, Q, E, news, g, F, R, T, 0, [], 0⟩, side, kind, sq, occ, t0, t1, t2, t3⟩ B Fr0 X N Tp hk hG hT hF hR hS hside hkind hsq hd hu hret

set_option maxRecDepth 100000 in
set_option maxHeartbeats 8000000 in
def col_c_P (w : World) (p : Program) (loose : List Str) (mean : ExcName → Option Value) (mg : Str → Option Value) (mb : Str → Option Value) (dp : Nat) (un : Nat) (gd : Option (List Code)) (cn : Str) (cs : Scope) (a : Addr) (ccd : Value) (cl : List (Str × Addr)) (outer : List Env) (A₀ : Around) (base : Heap) (h₀ : Heap) (L : Addr) (m : Str → Option Value) (s : Shared) (Q : Value → Shared → Prop) (E : Value → Shared → Prop) (news : List (Addr × Obj)) (g : Addr) (F : Int) (R : Int) (T : Tabs) (sq : Int) (men : Int) (t1 : Tok) (t2 : Tok) : Prop := ∀ (B : Below A₀ base outer h₀) (Fr0 : Fr h₀ L s.heap m) (X : (hd.heap_39 w.params).In h₀) (N : News h₀ L s.heap news) (Tp : Top p loose mean mg mb h₀) (hk : cs.kind = .function)
  (hG : GeoOk news g F R T) (hT : TabsLen T (F * R)) (hF : 3 ≤ F ∧ F ≤ 6) (hR : 3 ≤ R ∧ R ≤ 6) (hS : F * R ≤ 36) (hsq : 0 ≤ sq ∧ sq < F * R)
  (hC : Coloured T F (F * R).toNat sq men)
  (hd : dp + 9 < recursionLimit) (hu : un + 80 < cLine)
  (hret : ∀ (t : Tok) (h' : Heap) (tk' : Nat), Fr h₀ L h' m → News h₀ L h' news → Q (.bool true) { s with heap := h', toks := tk' }),
  wpAny (model PySem.Challenge.rw_tg0014_01.row.toRowW.1 w) (ktrTop dp un gd cn cs L a ccd cl outer) (call (.ref 186) [.ref g, .int sq t1, .int men t2]) Q E s
set_option maxRecDepth 100000 in
set_option maxHeartbeats 8000000 in
theorem col_c_q : ∀ x : Ctx × (Int) × (Int) × (Tok) × (Tok), col_c_P x.1.w x.1.p x.1.loose x.1.mean x.1.mg x.1.mb x.1.dp x.1.un x.1.gd x.1.cn x.1.cs x.1.a x.1.ccd x.1.cl x.1.outer x.1.A₀ x.1.base x.1.h₀ x.1.L x.1.m x.1.s x.1.Q x.1.E x.1.news x.1.g x.1.F x.1.R x.1.T x.2.1 x.2.2.1 x.2.2.2.1 x.2.2.2.2 := by
  refine eps_c ((?_ : ∀ w p loose mean mg mb dp un gd cn cs a ccd cl outer A₀ base h₀ L m s Q E news g F R T sq men t1 t2, col_c_P w p loose mean mg mb dp un gd cn cs a ccd cl outer A₀ base h₀ L m s Q E news g F R T sq men t1 t2) _ _ _ _ _ _ _ _ _ _ _ _ _ _ _ _ _ _ _ _ _ _ _ _ _ _ _ _ _ _ _ _)
  intros w p loose mean mg mb dp un gd cn cs a ccd cl outer A₀ base h₀ L m s Q E news g F R T sq men t1 t2 B Fr0 X N Tp hk hG hT hF hR hS hsq hC hd hu hret
  w_top off
  revert X; k_fill; intro X
  refine GeoOk.use hG ((?_ : GeoAll _ _ _ _ _ _) _ _ _ _ _ _ _ _ _ _ _ _ _ _ _ _ _ _ _ _ _ _); intros dg es ng uF uS rA rs nr kA kv kn nA nv nn pA np p0 v0 n0 p1 v1 n1 hx0; obtain ⟨h1, h2, h3, h4, h5, h6, h7, h8, h9, h10, h11, h12, h13, h14, h15, h16, h17, h18, h19⟩ := hx0
  have hN0 : 0 ≤ F * R := Int.le_of_lt (Int.lt_of_le_of_lt hsq.1 hsq.2)
  refine wpAny_call ?_
  k_dflt (refine' code_defC ?k1 ?k2 ?k3 ?k4 ?k5 ?kA ?kF ?kK ?k6 ?k7 ?k8 ?k9 ?kB ?kD ?_ ?c2 ?c3 ?c4; (case kA => exact rfl); (case kF => exact rfl); (case kK => assumption); (case k1 => k_asm); (case k2 => k_asm); (case k3 => k_asm); (case k4 => k_asm); (case k5 => k_asm); (case k6 => k_is); (case k7 => k_is); (case k8 => (first | exact room2 hd rfl | exact room1 hd rfl | exact room0 hd | ktr_room)); (case k9 => exact BindsTo.of_eq rfl); (case kB => exact rfl); (case kD => decide +kernel); (case c2 => exact rfl); (case c3 => exact rfl); (case c4 => exact rfl); k_whole)
  refine eps5 ((?_ : All5 _) _ _ _ _ _); intros g' L' h' tk' cells' FG' F' N' Y' B' X' T' l1
  have hne1 : ∀ p ∈ news, p.1 ≠ L' + 1 := fun p hp => by have h0 : p.1 < L' := l1 p hp; have h9 : p.1 ≠ L' + 1 := Nat.ne_of_lt (Nat.lt_succ_of_lt h0); exact h9
  have hne2 : ∀ p ∈ news, p.1 ≠ L' + 1 + 1 := fun p hp => by have h0 : p.1 < L' := l1 p hp; have h9 : p.1 ≠ L' + 1 + 1 := Nat.ne_of_lt (Nat.lt_succ_of_lt (Nat.lt_succ_of_lt h0)); exact h9
  have hne3 : ∀ p ∈ news, p.1 ≠ L' + 1 + 1 + 1 := fun p hp => by have h0 : p.1 < L' := l1 p hp; have h9 : p.1 ≠ L' + 1 + 1 + 1 := Nat.ne_of_lt (Nat.lt_succ_of_lt (Nat.lt_succ_of_lt (Nat.lt_succ_of_lt h0))); exact h9
  have hne4 : ∀ p ∈ news, p.1 ≠ L' + 1 + 1 + 1 + 1 := fun p hp => by have h0 : p.1 < L' := l1 p hp; have h9 : p.1 ≠ L' + 1 + 1 + 1 + 1 := Nat.ne_of_lt (Nat.lt_succ_of_lt (Nat.lt_succ_of_lt (Nat.lt_succ_of_lt (Nat.lt_succ_of_lt h0)))); exact h9
  have hne5 : ∀ p ∈ news, p.1 ≠ L' + 1 + 1 + 1 + 1 + 1 := fun p hp => by have h0 : p.1 < L' := l1 p hp; have h9 : p.1 ≠ L' + 1 + 1 + 1 + 1 + 1 := Nat.ne_of_lt (Nat.lt_succ_of_lt (Nat.lt_succ_of_lt (Nat.lt_succ_of_lt (Nat.lt_succ_of_lt (Nat.lt_succ_of_lt h0))))); exact h9
  refine exs5 (five_cells Y') ((?_ : All5 _) _ _ _ _ _); intros o1' o2' o3' o4' o5' hx0; obtain ⟨hE', d1', d2', d3', d4', d5'⟩ := hx0
  subst hE'
  clear Y'
  (try (replace N' := N'; simp only [List.cons_append, List.nil_append] at N'))
  (try dsimp only)
  (repeat' (first | ((with_reducible show wpAny _ _ (getAttr (Value.ref _) _ _) _ _ _); k_dflt (refine' get_own ?k1 ?k2 ?k3 ?k4 ?k5 ?k6 ?k7 ?k8 ?k9 ?_; (case k1 => k_asm); (case k2 => k_asm); (case k3 => k_inst); (case k4 => k_is); (case k5 => k_is); (case k6 => k_is); (case k7 => k_is); (case k8 => first | (with_reducible assumption) | exact (getL_put_ne (by decide) _).trans (by with_reducible assumption) | exact getL_put_self _); (case k9 => k_handed); k_whole)) | ((with_reducible show LCg.CompSrc ..); refine Stop.out ?_) | ((with_reducible show wpAny _ _ (eval (PySem.Expr.ListComp ..) _) _ _ _); (first | lcg_look | lcf_look); k_dflt (refine LCg.ListComp_U (F₀ := by k_asm) (by with_unfolding_all rfl) (by decide) (by rfl) (by decide) (by rfl) ?_)) | ((with_reducible show wpAny _ _ (call (Value.type _) _) _ _ _); (with_reducible rename Fr _ _ _ _ => F8); (with_reducible rename News _ _ _ _ => N8); first | (with_unfolding_all refine range1_rows F8 N8 ?_; refine eps5 ((?_ : All5 _) _ _ _ _ _); intros _ _ _ _ _ _ _ _ _) | (with_unfolding_all refine range2_rows F8 N8 ?_; refine eps5 ((?_ : All5 _) _ _ _ _ _); intros _ _ _ _ _ _ _ _ _) | (with_unfolding_all refine range3_rows F8 N8 (by decide) ?_; refine eps5 ((?_ : All5 _) _ _ _ _ _); intros _ _ _ _ _ _ _ _ _)) | (k_end; wrow_close) | walk1 | (dsimp only; walk1) | (leave1; (try dsimp only)) | fail "no step"))
  refine Stop.mk ?_
  k_dflt (refine LCg.CompSrc.range (by rfl) (by k_asm) (by k_asm) (by assumption) (small_FR hN0 hS) (rangeSize_nat _ _) (line_FR hS) ?_)
  refine eps1 ((?_ : All1 _) _); intros g9
  delta At1
  refine cu_range (fun i => distV F sq i) ?_ ?_
  · refine eps12 ((?_ : All12 _) _ _ _ _ _ _ _ _ _ _ _ _); intros k' t' I' oI' C' oC' D' m' ys' h' tk' E' hlo' hhi' hC' hx' F' N' off' ne'; have hhi9 := range_hi hN0 hhi'; clear hhi'
    (repeat' (first | ((with_reducible show wpAny _ _ (call (Value.ref 169) _) _ _ _); k_dflt (refine' dist_c ?k1 ?k2 ?k3 ?k4 ?k5 ?k6 ?g ?gt ?gf ?gr ?gs ?a1 ?a2 ?d ?u ?_; (case k1 => k_asm); (case k2 => k_asm); (case k3 => k_asm); (case k4 => k_asm); (case k5 => k_asm); (case k6 => first | exact rfl | assumption); (case g => (refine' GeoOk.cons ?gg; (case gg => (refine' GeoOk.cons ?gg; (case gg => (refine' GeoOk.cons ?gg; (case gg => (refine' GeoOk.cons ?gg; (case gg => (refine' GeoOk.cons ?gg; (case gg => (refine' GeoOk.cons ?gg; (case gg => (refine' GeoOk.cons ?gg; (case gg => (refine' GeoOk.cons ?gg; (case gg => assumption))))))))))))))))); (case gt => assumption); (case gf => assumption); (case gr => assumption); (case gs => assumption); (case a1 => (first | with_reducible assumption | exact ⟨(by with_reducible assumption), (by first | with_reducible assumption | exact And.right (by with_reducible assumption) | exact in_hi (by with_reducible assumption) (by with_reducible assumption))⟩)); (case a2 => (first | with_reducible assumption | exact ⟨(by with_reducible assumption), (by first | with_reducible assumption | exact And.right (by with_reducible assumption) | exact in_hi (by with_reducible assumption) (by with_reducible assumption))⟩)); (case d => (first | exact room2 hd rfl | exact room1 hd rfl | exact room0 hd | ktr_room)); (case u => (dsimp only [ktrTop, units_deeper]; first | exact hu | exact room2 hu rfl | exact room1 hu rfl | omega)); refine eps3 ((?_ : All3 _) _ _ _); intros t9 h9 tk9 F9 N9; (try dsimp only))) | ((with_reducible show LCg.CompEnd _ _ _ _ _ _ _ _ _ _ _ (fun y n => CuEl _ _ y n) _ _); (refine' cu_end ?c1 ?c2 ?c3 ?c4 ?c5 ?_; (case c1 => k_asm); (case c2 => k_asm); (case c3 => exact fun _ h => h); (case c4 => assumption); (case c5 => first | exact True.intro | assumption | exact Or.inr ⟨_, by k_mem, rfl, _, rfl⟩))) | (k_end; wrow_close) | walk1 | (dsimp only; walk1) | (leave1; (try dsimp only)) | fail "no step"))
    all_goals rfl
  refine eps1 ((?_ : All1 _) _); intros ys hys0
  refine exs1 (range_tab (by omega) hys0) ((?_ : All1 _) _); intros W hx0; obtain ⟨hWl, hWg, hys⟩ := hx0
  clear hys0
  (repeat' (first | ((with_reducible show wpAny _ _ (getAttr (Value.ref _) _ _) _ _ _); k_dflt (refine' get_own ?k1 ?k2 ?k3 ?k4 ?k5 ?k6 ?k7 ?k8 ?k9 ?_; (case k1 => k_asm); (case k2 => k_asm); (case k3 => k_inst); (case k4 => k_is); (case k5 => k_is); (case k6 => k_is); (case k7 => k_is); (case k8 => first | (with_reducible assumption) | exact (getL_put_ne (by decide) _).trans (by with_reducible assumption) | exact getL_put_self _); (case k9 => k_handed); k_whole)) | ((with_reducible show LCg.CompSrc ..); refine Stop.out ?_) | ((with_reducible show wpAny _ _ (eval (PySem.Expr.ListComp ..) _) _ _ _); (first | lcg_look | lcf_look); k_dflt (refine LCg.ListComp_U (F₀ := by k_asm) (by with_unfolding_all rfl) (by decide) (by rfl) (by decide) (by rfl) ?_)) | ((with_reducible show LCg.FinE ..); unfold LCg.FinE; refine eps3 ((?_ : All3 _) _ _ _); intros D' h' tk' F' N' o1'; (try dsimp only)) | ((with_reducible show wpAny _ _ (storeName _ _ _) _ _ _); k_dflt (refine' storeX_C ?F ?N ?c ?U ?d ?_ ?a ?b; (case a => rfl); (case b => rfl); (case F => k_asm); (case N => k_asm); (case c => rfl); (case U => k_updF); (case d => k_asm); k_whole; refine eps2 ((?_ : All2 _) _ _); intros h' o' F' N' d'; (try dsimp only at N'); (try k_sweep))) | ((with_reducible show wpAny _ _ (call (Value.type _) _) _ _ _); (with_reducible rename Fr _ _ _ _ => F8); (with_reducible rename News _ _ _ _ => N8); first | (with_unfolding_all refine range1_rows F8 N8 ?_; refine eps5 ((?_ : All5 _) _ _ _ _ _); intros _ _ _ _ _ _ _ _ _) | (with_unfolding_all refine range2_rows F8 N8 ?_; refine eps5 ((?_ : All5 _) _ _ _ _ _); intros _ _ _ _ _ _ _ _ _) | (with_unfolding_all refine range3_rows F8 N8 (by decide) ?_; refine eps5 ((?_ : All5 _) _ _ _ _ _); intros _ _ _ _ _ _ _ _ _)) | (k_end; wrow_close) | walk1 | (dsimp only; walk1) | (leave1; (try dsimp only)) | fail "no step"))
  refine Stop.mk ?_
  k_dflt (refine LCg.CompSrc.range (by rfl) (by k_asm) (by k_asm) (by assumption) (small_FR hN0 hS) (rangeSize_nat _ _) (line_FR hS) ?_)
  refine eps1 ((?_ : All1 _) _); intros g9
  delta At1
  refine cu_range (fun i => unlikeV F sq i) ?_ ?_
  · refine eps12 ((?_ : All12 _) _ _ _ _ _ _ _ _ _ _ _ _); intros k' t' I' oI' C' oC' D' m' ys' h' tk' E' hlo' hhi' hC' hx' F' N' off' ne'; have hhi9 := range_hi hN0 hhi'; clear hhi'
    (repeat' (first | ((with_reducible show wpAny _ _ (call (Value.ref 162) _) _ _ _); k_dflt (refine' colour_c ?k1 ?k2 ?k3 ?k4 ?k5 ?k6 ?g ?gt ?gf ?gr ?gs ?a1 ?d ?u ?_; (case k1 => k_asm); (case k2 => k_asm); (case k3 => k_asm); (case k4 => k_asm); (case k5 => k_asm); (case k6 => first | exact rfl | assumption); (case g => (refine' GeoOk.cons ?gg; (case gg => (refine' GeoOk.cons ?gg; (case gg => (refine' GeoOk.cons ?gg; (case gg => (refine' GeoOk.cons ?gg; (case gg => (refine' GeoOk.cons ?gg; (case gg => (refine' GeoOk.cons ?gg; (case gg => (refine' GeoOk.cons ?gg; (case gg => (refine' GeoOk.cons ?gg; (case gg => (refine' GeoOk.cons ?gg; (case gg => assumption))))))))))))))))))); (case gt => assumption); (case gf => assumption); (case gr => assumption); (case gs => assumption); (case a1 => (first | with_reducible assumption | exact ⟨(by with_reducible assumption), (by first | with_reducible assumption | exact And.right (by with_reducible assumption) | exact in_hi (by with_reducible assumption) (by with_reducible assumption))⟩)); (case d => (first | exact room2 hd rfl | exact room1 hd rfl | exact room0 hd | ktr_room)); (case u => (dsimp only [ktrTop, units_deeper]; first | exact hu | exact room2 hu rfl | exact room1 hu rfl | omega)); refine eps3 ((?_ : All3 _) _ _ _); intros t9 h9 tk9 F9 N9; (try dsimp only))) | (with_reducible first | refine const_tk ?_ | refine and_tk ?_ | refine or_tk ?_ | refine ior_tk ?_ | refine add_tk ?_ | refine sub_tk ?_ | refine inv_tk ?_) | ((with_reducible show LCg.CompEnd _ _ _ _ _ _ _ _ _ _ _ (fun y n => CuEl _ _ y n) _ _); (refine' cu_end ?c1 ?c2 ?c3 ?c4 ?c5 ?_; (case c1 => k_asm); (case c2 => k_asm); (case c3 => exact fun _ h => h); (case c4 => assumption); (case c5 => first | exact True.intro | assumption | exact Or.inr ⟨_, by k_mem, rfl, _, rfl⟩))) | (k_end; wrow_close) | walk1 | (dsimp only; walk1) | (leave1; (try dsimp only)) | fail "no step"))
    all_goals rfl
  refine eps1 ((?_ : All1 _) _); intros us hus0
  refine exs1 (range_tab (by omega) hus0) ((?_ : All1 _) _); intros U hx0; obtain ⟨hUl, hUg, hus⟩ := hx0
  clear hus0
  (repeat' (first | ((with_reducible show wpAny _ _ (getAttr (Value.ref _) _ _) _ _ _); k_dflt (refine' get_own ?k1 ?k2 ?k3 ?k4 ?k5 ?k6 ?k7 ?k8 ?k9 ?_; (case k1 => k_asm); (case k2 => k_asm); (case k3 => k_inst); (case k4 => k_is); (case k5 => k_is); (case k6 => k_is); (case k7 => k_is); (case k8 => first | (with_reducible assumption) | exact (getL_put_ne (by decide) _).trans (by with_reducible assumption) | exact getL_put_self _); (case k9 => k_handed); k_whole)) | ((with_reducible show LCt.CompSrcT ..); refine Stop.out ?_) | ((with_reducible show wpAny _ _ (eval (PySem.Expr.ListComp ..) _) _ _ _); lct_look; k_dflt (refine LCt.ListComp_T (F₀ := by k_asm) (by with_unfolding_all rfl) (by decide) (by rfl) (by decide) (by rfl) ?_)) | ((with_reducible show LCg.FinE ..); unfold LCg.FinE; refine eps3 ((?_ : All3 _) _ _ _); intros D' h' tk' F' N' o1'; (try dsimp only)) | ((with_reducible show wpAny _ _ (storeName _ _ _) _ _ _); k_dflt (refine' storeX_C ?F ?N ?c ?U ?d ?_ ?a ?b; (case a => rfl); (case b => rfl); (case F => k_asm); (case N => k_asm); (case c => rfl); (case U => k_updF); (case d => k_asm); k_whole; refine eps2 ((?_ : All2 _) _ _); intros h' o' F' N' d'; (try dsimp only at N'); (try k_sweep))) | ((with_reducible show wpAny _ _ (call (Value.type _) _) _ _ _); (with_reducible rename Fr _ _ _ _ => F8); (with_reducible rename News _ _ _ _ => N8); first | (with_unfolding_all refine range1_rows F8 N8 ?_; refine eps5 ((?_ : All5 _) _ _ _ _ _); intros _ _ _ _ _ _ _ _ _) | (with_unfolding_all refine range2_rows F8 N8 ?_; refine eps5 ((?_ : All5 _) _ _ _ _ _); intros _ _ _ _ _ _ _ _ _) | (with_unfolding_all refine range3_rows F8 N8 (by decide) ?_; refine eps5 ((?_ : All5 _) _ _ _ _ _); intros _ _ _ _ _ _ _ _ _)) | (k_end; wrow_close) | walk1 | (dsimp only; walk1) | (leave1; (try dsimp only)) | fail "no step"))
  refine Stop.mk ?_
  k_dflt (refine LCt.CompSrcT.range (by rfl) (by k_asm) (by k_asm) (by assumption) (small_FR hN0 hS) (rangeSize_nat _ _) (line_FR hS) ?_)
  refine eps1 ((?_ : All1 _) _); intros g9
  delta At1
  refine ct_range (fun i => distV F sq i == 1) (fun i => i) ?_ ?_
  · refine eps12 ((?_ : All12 _) _ _ _ _ _ _ _ _ _ _ _ _); intros k' t' I' oI' C' oC' D' m' ys' h' tk' E' hlo' hhi' hC' hx' F' N' off' ne'; have hhi9 := range_hi hN0 hhi'; clear hhi'
    have hg := hWg k' (by omega) (by omega)
    (repeat' (first | (with_reducible first | refine const_tk ?_ | refine and_tk ?_ | refine or_tk ?_ | refine ior_tk ?_ | refine add_tk ?_ | refine sub_tk ?_ | refine inv_tk ?_) | ((with_reducible show wpAny _ _ (subscriptTail _ _ (Value.ref _) (Value.int _ _)) _ _ _); k_dflt (refine' ksa_sub ?k1 ?k2 ?k3 ?k4 ?k5 ?k6 ?_ ?k7; (case k1 => k_asm); (case k2 => k_mem); (case k3 => with_reducible assumption); (case k4 => (first | with_reducible assumption | exact lt_len (by with_reducible assumption) (by first | with_reducible assumption | exact And.right (by with_reducible assumption) | exact in_hi (by with_reducible assumption) (by with_reducible assumption)) | exact lt63 (by with_reducible assumption) (by first | with_reducible assumption | exact And.right (by with_reducible assumption) | exact in_hi (by with_reducible assumption) (by with_reducible assumption)))); (case k5 => (first | with_reducible assumption | exact lt_len (by with_reducible assumption) (by first | with_reducible assumption | exact And.right (by with_reducible assumption) | exact in_hi (by with_reducible assumption) (by with_reducible assumption)) | exact lt63 (by with_reducible assumption) (by first | with_reducible assumption | exact And.right (by with_reducible assumption) | exact in_hi (by with_reducible assumption) (by with_reducible assumption)))); (case k6 => (first | with_reducible assumption | exact lt_len (by with_reducible assumption) (by first | with_reducible assumption | exact And.right (by with_reducible assumption) | exact in_hi (by with_reducible assumption) (by with_reducible assumption)) | exact lt63 (by with_reducible assumption) (by first | with_reducible assumption | exact And.right (by with_reducible assumption) | exact in_hi (by with_reducible assumption) (by with_reducible assumption)))); (case k7 => with_unfolding_all rfl); k_whole); refine eps1 ((?_ : All1 _) _); intros t9; delta At1; (try dsimp only)) | ((with_reducible show LCg.CompEnd _ _ _ _ _ _ _ _ _ _ _ (fun y n => CtYes _ _ _ y n) _ _); (refine' ct_yes ?c1 ?c2 ?c3 ?c4 ?c5 ?_ ?c7; (case c1 => k_asm); (case c2 => k_asm); (case c3 => exact fun _ h => h); (case c4 => assumption); (case c5 => first | exact True.intro | assumption | exact Or.inr ⟨_, by k_mem, rfl, _, rfl⟩); (case c7 => rfl))) | ((with_reducible show LCg.CompEnd _ _ _ _ _ _ _ _ _ _ _ (fun y n => CtNo _ _ y n) _ _); (refine' ct_no ?c1 ?c2 ?c3 ?c4 ?c5 ?_; (case c1 => k_asm); (case c2 => k_asm); (case c3 => exact fun _ h => h); (case c4 => assumption); (case c5 => first | exact True.intro | assumption | exact Or.inr ⟨_, by k_mem, rfl, _, rfl⟩))) | (k_end; wrow_close) | walk1 | (dsimp only; walk1) | (leave1; (try dsimp only)) | fail "no step"))
    all_goals (rw [← hg]; first | exact beq_iff_eq.mpr (by assumption) | exact beq_eq_false_iff_ne.mpr (by assumption))
  refine eps1 ((?_ : All1 _) _); intros ns hns
  have hns : IntsAre ns (nearV F (F * R).toNat sq) := by
    replace hns := hns; rw [Int.sub_zero, List.map_id'] at hns
    exact hns
  (repeat' (first | ((with_reducible show wpAny _ _ (call (Value.ref 181) _) _ _ _); k_dflt (refine' seen_c ?k1 ?k2 ?k3 ?k4 ?k5 ?k6 ?g ?gt ?gf ?gr ?gs ?a0 ?a1 ?a2 ?d ?u ?_; (case k1 => k_asm); (case k2 => k_asm); (case k3 => k_asm); (case k4 => k_asm); (case k5 => k_asm); (case k6 => first | exact rfl | assumption); (case g => (refine' GeoOk.cons ?gg; (case gg => (refine' GeoOk.cons ?gg; (case gg => (refine' GeoOk.cons ?gg; (case gg => (refine' GeoOk.cons ?gg; (case gg => (refine' GeoOk.cons ?gg; (case gg => (refine' GeoOk.cons ?gg; (case gg => (refine' GeoOk.cons ?gg; (case gg => (refine' GeoOk.cons ?gg; (case gg => (first | assumption | (refine' GeoOk.cons ?gg; (case gg => (first | assumption | (refine' GeoOk.cons ?gg; (case gg => (refine' GeoOk.cons ?gg; (case gg => assumption))))))))))))))))))))))))); (case gt => assumption); (case gf => assumption); (case gr => assumption); (case gs => assumption); (case a0 => (first | with_reducible assumption | decide)); (case a1 => (first | with_reducible assumption | decide)); (case a2 => (first | with_reducible assumption | decide)); (case d => (first | exact room2 hd rfl | exact room1 hd rfl | exact room0 hd | ktr_room)); (case u => (dsimp only [ktrTop, units_deeper]; first | exact hu | exact room2 hu rfl | exact room1 hu rfl | omega)); refine eps4 ((?_ : All4 _) _ _ _ _); intros D9 ys9 h9 tk9 F9 N9 o9 i9; clear o9; (try dsimp only))) | ((with_reducible show wpAny _ _ (storeName _ _ _) _ _ _); k_dflt (refine' storeX_L ?sF ?sN ?_ ?sa ?sb; (case sF => k_asm); (case sN => k_asm); (case sa => rfl); (case sb => rfl); k_whole; refine eps1 ((?_ : All1 _) _); intros h' F' N'; (try k_sweep))) | ((with_reducible show LCt.CompSrcT ..); refine Stop.out ?_) | ((with_reducible show wpAny _ _ (eval (PySem.Expr.ListComp ..) _) _ _ _); lct_look; k_dflt (refine LCt.ListComp_T (F₀ := by k_asm) (by with_unfolding_all rfl) (by decide) (by rfl) (by decide) (by rfl) ?_)) | ((with_reducible show LCg.FinE ..); unfold LCg.FinE; refine eps3 ((?_ : All3 _) _ _ _); intros D' h' tk' F' N' o1'; (try dsimp only)) | ((with_reducible show wpAny _ _ (storeName _ _ _) _ _ _); k_dflt (refine' storeX_C ?F ?N ?c ?U ?d ?_ ?a ?b; (case a => rfl); (case b => rfl); (case F => k_asm); (case N => k_asm); (case c => rfl); (case U => k_updF); (case d => k_asm); k_whole; refine eps2 ((?_ : All2 _) _ _); intros h' o' F' N' d'; (try dsimp only at N'); (try k_sweep))) | ((with_reducible show wpAny _ _ (newTuple _) _ _ _); k_dflt (refine' kup_newTuple ?F ?N ?_ ?z; (case F => k_asm); (case N => k_asm); (case z => kmk_size)); refine eps2 ((?_ : All2 _) _ _); intros D' h' F' N' l1; (try k_lt l1); (try k_sweep)) | ((with_reducible show wpAny _ _ (unpackItems (Value.ref _) _ _) _ _ _); k_dflt (first | (refine' unpackItemsN_ ?k1 ?k2 ?k3 ?k4 ?k5 ?_; (case k1 => k_asm); (case k2 => k_asm); (case k3 => kun_tup); (case k4 => exact rfl); (case k5 => exact rfl); k_whole) | (refine' kun_items ?k1 ?k2 ?k3 ?k4 ?k5 ?_; (case k1 => k_asm); (case k2 => k_asm); (case k3 => kun_lst); (case k4 => exact rfl); (case k5 => exact rfl); k_whole)); refine eps1 ((?_ : All1 _) _); intros h' F' N'; (try k_sweep)) | (k_end; wrow_close) | walk1 | (dsimp only; walk1) | (leave1; (try dsimp only)) | fail "no step"))
  rotate_left
  · exfalso; exact absurd hC.king (by assumption)
  refine Stop.mk ?_
  with_reducible rename IntsAre _ (seenV T _ 0 3 sq men) => hB
  k_dflt (refine LCt.CompSrcT.ledger (by rfl) (by k_asm) (by k_asm) (by k_mem) (line_len hB.length (seenV_len T (F * R).toNat 0 3 sq men) hS) ?_)
  refine eps1 ((?_ : All1 _) _); intros g8
  delta At1
  refine ct_list (fun q => unlikeV F sq q == 1) (fun q => q) hB ?_ ?_
  · refine eps12 ((?_ : All12 _) _ _ _ _ _ _ _ _ _ _ _ _); intros k' t' I' oI' C' oC' D' m' ys' h' tk' E' hk' hC' hx' F' N' off' ne'
    obtain ⟨hk0, hk1⟩ := mem_seenF hN0 hk'
    have hg := hUg k' (by omega) (by omega)
    (repeat' (first | (with_reducible first | refine const_tk ?_ | refine and_tk ?_ | refine or_tk ?_ | refine ior_tk ?_ | refine add_tk ?_ | refine sub_tk ?_ | refine inv_tk ?_) | ((with_reducible show wpAny _ _ (subscriptTail _ _ (Value.ref _) (Value.int _ _)) _ _ _); k_dflt (refine' ksa_sub ?k1 ?k2 ?k3 ?k4 ?k5 ?k6 ?_ ?k7; (case k1 => k_asm); (case k2 => k_mem); (case k3 => with_reducible assumption); (case k4 => (first | with_reducible assumption | exact lt_len (by with_reducible assumption) (by first | with_reducible assumption | exact And.right (by with_reducible assumption) | exact in_hi (by with_reducible assumption) (by with_reducible assumption)) | exact lt63 (by with_reducible assumption) (by first | with_reducible assumption | exact And.right (by with_reducible assumption) | exact in_hi (by with_reducible assumption) (by with_reducible assumption)))); (case k5 => (first | with_reducible assumption | exact lt_len (by with_reducible assumption) (by first | with_reducible assumption | exact And.right (by with_reducible assumption) | exact in_hi (by with_reducible assumption) (by with_reducible assumption)) | exact lt63 (by with_reducible assumption) (by first | with_reducible assumption | exact And.right (by with_reducible assumption) | exact in_hi (by with_reducible assumption) (by with_reducible assumption)))); (case k6 => (first | with_reducible assumption | exact lt_len (by with_reducible assumption) (by first | with_reducible assumption | exact And.right (by with_reducible assumption) | exact in_hi (by with_reducible assumption) (by with_reducible assumption)) | exact lt63 (by with_reducible assumption) (by first | with_reducible assumption | exact And.right (by with_reducible assumption) | exact in_hi (by with_reducible assumption) (by with_reducible assumption)))); (case k7 => with_unfolding_all rfl); k_whole); refine eps1 ((?_ : All1 _) _); intros t9; delta At1; (try dsimp only)) | ((with_reducible show LCg.CompEnd _ _ _ _ _ _ _ _ _ _ _ (fun y n => CtYes _ _ _ y n) _ _); (refine' ct_yes ?c1 ?c2 ?c3 ?c4 ?c5 ?_ ?c7; (case c1 => k_asm); (case c2 => k_asm); (case c3 => exact fun _ h => h); (case c4 => assumption); (case c5 => first | exact True.intro | assumption | exact Or.inr ⟨_, by k_mem, rfl, _, rfl⟩); (case c7 => rfl))) | ((with_reducible show LCg.CompEnd _ _ _ _ _ _ _ _ _ _ _ (fun y n => CtNo _ _ y n) _ _); (refine' ct_no ?c1 ?c2 ?c3 ?c4 ?c5 ?_; (case c1 => k_asm); (case c2 => k_asm); (case c3 => exact fun _ h => h); (case c4 => assumption); (case c5 => first | exact True.intro | assumption | exact Or.inr ⟨_, by k_mem, rfl, _, rfl⟩))) | (k_end; wrow_close) | walk1 | (dsimp only; walk1) | (leave1; (try dsimp only)) | fail "no step"))
    all_goals (rw [← hg]; first | exact beq_iff_eq.mpr (by assumption) | exact beq_eq_false_iff_ne.mpr (by assumption))
  refine eps1 ((?_ : All1 _) _); intros zs hzs
  replace hzs := hzs; rw [List.map_id', hC.bishop] at hzs
  (repeat' (first | ((with_reducible show LCt.CompSrcT ..); refine Stop.out ?_) | ((with_reducible show wpAny _ _ (eval (PySem.Expr.ListComp ..) _) _ _ _); lct_look; k_dflt (refine LCt.ListComp_T (F₀ := by k_asm) (by with_unfolding_all rfl) (by decide) (by rfl) (by decide) (by rfl) ?_)) | ((with_reducible show LCg.FinE ..); unfold LCg.FinE; refine eps3 ((?_ : All3 _) _ _ _); intros D' h' tk' F' N' o1'; (try dsimp only)) | ((with_reducible show wpAny _ _ (newList _) _ _ _); k_dflt (refine' newList_K ?k1 ?k2 ?_; (case k1 => k_asm); (case k2 => k_asm); k_whole); refine eps2 ((?_ : All2 _) _ _); intros l' h' F' N' l1; (try k_lt l1); (try k_sweep)) | (k_end; wrow_close) | walk1 | (dsimp only; walk1) | (leave1; (try dsimp only)) | fail "no step"))
  refine Stop.mk ?_
  with_reducible rename IntsAre _ (seenV T _ 0 4 sq men) => hR4
  k_dflt (refine LCt.CompSrcT.ledger (by rfl) (by k_asm) (by k_asm) (by k_mem) (line_len hR4.length (seenV_len T (F * R).toNat 0 4 sq men) hS) ?_)
  refine eps1 ((?_ : All1 _) _); intros g8
  delta At1
  refine ct_list (fun q => (unlikeV F sq q + distV F sq q).fmod 2 == 1) (fun q => q) hR4 ?_ ?_
  · refine eps12 ((?_ : All12 _) _ _ _ _ _ _ _ _ _ _ _ _); intros k' t' I' oI' C' oC' D' m' ys' h' tk' E' hk' hC' hx' F' N' off' ne'
    obtain ⟨hk0, hk1⟩ := mem_seenF hN0 hk'
    have hg := hUg k' (by omega) (by omega)
    have hg2 := hWg k' (by omega) (by omega)
    (repeat' (first | (with_reducible first | refine const_tk ?_ | refine and_tk ?_ | refine or_tk ?_ | refine ior_tk ?_ | refine add_tk ?_ | refine sub_tk ?_ | refine inv_tk ?_) | ((with_reducible show wpAny _ _ (subscriptTail _ _ (Value.ref _) (Value.int _ _)) _ _ _); k_dflt (refine' ksa_sub ?k1 ?k2 ?k3 ?k4 ?k5 ?k6 ?_ ?k7; (case k1 => k_asm); (case k2 => k_mem); (case k3 => with_reducible assumption); (case k4 => (first | with_reducible assumption | exact lt_len (by with_reducible assumption) (by first | with_reducible assumption | exact And.right (by with_reducible assumption) | exact in_hi (by with_reducible assumption) (by with_reducible assumption)) | exact lt63 (by with_reducible assumption) (by first | with_reducible assumption | exact And.right (by with_reducible assumption) | exact in_hi (by with_reducible assumption) (by with_reducible assumption)))); (case k5 => (first | with_reducible assumption | exact lt_len (by with_reducible assumption) (by first | with_reducible assumption | exact And.right (by with_reducible assumption) | exact in_hi (by with_reducible assumption) (by with_reducible assumption)) | exact lt63 (by with_reducible assumption) (by first | with_reducible assumption | exact And.right (by with_reducible assumption) | exact in_hi (by with_reducible assumption) (by with_reducible assumption)))); (case k6 => (first | with_reducible assumption | exact lt_len (by with_reducible assumption) (by first | with_reducible assumption | exact And.right (by with_reducible assumption) | exact in_hi (by with_reducible assumption) (by with_reducible assumption)) | exact lt63 (by with_reducible assumption) (by first | with_reducible assumption | exact And.right (by with_reducible assumption) | exact in_hi (by with_reducible assumption) (by with_reducible assumption)))); (case k7 => with_unfolding_all rfl); k_whole); refine eps1 ((?_ : All1 _) _); intros t9; delta At1; (try dsimp only)) | ((with_reducible show LCg.CompEnd _ _ _ _ _ _ _ _ _ _ _ (fun y n => CtYes _ _ _ y n) _ _); (refine' ct_yes ?c1 ?c2 ?c3 ?c4 ?c5 ?_ ?c7; (case c1 => k_asm); (case c2 => k_asm); (case c3 => exact fun _ h => h); (case c4 => assumption); (case c5 => first | exact True.intro | assumption | exact Or.inr ⟨_, by k_mem, rfl, _, rfl⟩); (case c7 => rfl))) | ((with_reducible show LCg.CompEnd _ _ _ _ _ _ _ _ _ _ _ (fun y n => CtNo _ _ y n) _ _); (refine' ct_no ?c1 ?c2 ?c3 ?c4 ?c5 ?_; (case c1 => k_asm); (case c2 => k_asm); (case c3 => exact fun _ h => h); (case c4 => assumption); (case c5 => first | exact True.intro | assumption | exact Or.inr ⟨_, by k_mem, rfl, _, rfl⟩))) | (k_end; wrow_close) | walk1 | (dsimp only; walk1) | (leave1; (try dsimp only)) | fail "no step"))
    all_goals (rw [← hg, ← hg2]; first | exact beq_iff_eq.mpr (by assumption) | exact beq_eq_false_iff_ne.mpr (by assumption))
  clear hzs
  refine eps1 ((?_ : All1 _) _); intros zs hzs
  replace hzs := hzs; rw [List.map_id', hC.rook] at hzs
  (repeat' (first | ((with_reducible show LCt.CompSrcT ..); refine Stop.out ?_) | ((with_reducible show wpAny _ _ (eval (PySem.Expr.ListComp ..) _) _ _ _); lct_look; k_dflt (refine LCt.ListComp_T (F₀ := by k_asm) (by with_unfolding_all rfl) (by decide) (by rfl) (by decide) (by rfl) ?_)) | ((with_reducible show LCg.FinE ..); unfold LCg.FinE; refine eps3 ((?_ : All3 _) _ _ _); intros D' h' tk' F' N' o1'; (try dsimp only)) | ((with_reducible show wpAny _ _ (newList _) _ _ _); k_dflt (refine' newList_K ?k1 ?k2 ?_; (case k1 => k_asm); (case k2 => k_asm); k_whole); refine eps2 ((?_ : All2 _) _ _); intros l' h' F' N' l1; (try k_lt l1); (try k_sweep)) | (k_end; wrow_close) | walk1 | (dsimp only; walk1) | (leave1; (try dsimp only)) | fail "no step"))
  refine Stop.mk ?_
  k_dflt (refine LCt.CompSrcT.ledger (by rfl) (by k_asm) (by k_asm) (by k_mem) (line_len hB.length (seenV_len T (F * R).toNat 0 3 sq men) hS) ?_)
  refine eps1 ((?_ : All1 _) _); intros g8
  delta At1
  refine ct_list (fun q => (nearV F (F * R).toNat sq).any fun x => x == q) (fun q => q) hB ?_ ?_
  · refine eps12 ((?_ : All12 _) _ _ _ _ _ _ _ _ _ _ _ _); intros k' t' I' oI' C' oC' D' m' ys' h' tk' E' hk' hC' hx' F' N' off' ne'
    obtain ⟨hk0, hk1⟩ := mem_seenF hN0 hk'
    (repeat' (first | ((with_reducible show LCg.CompEnd _ _ _ _ _ _ _ _ _ _ _ (fun y n => CtYes _ _ _ y n) _ _); (refine' ct_yes ?c1 ?c2 ?c3 ?c4 ?c5 ?_ ?c7; (case c1 => k_asm); (case c2 => k_asm); (case c3 => exact fun _ h => h); (case c4 => assumption); (case c5 => first | exact True.intro | assumption | exact Or.inr ⟨_, by k_mem, rfl, _, rfl⟩); (case c7 => rfl))) | ((with_reducible show LCg.CompEnd _ _ _ _ _ _ _ _ _ _ _ (fun y n => CtNo _ _ y n) _ _); (refine' ct_no ?c1 ?c2 ?c3 ?c4 ?c5 ?_; (case c1 => k_asm); (case c2 => k_asm); (case c3 => exact fun _ h => h); (case c4 => assumption); (case c5 => first | exact True.intro | assumption | exact Or.inr ⟨_, by k_mem, rfl, _, rfl⟩))) | (k_end; wrow_close) | walk1 | (dsimp only; walk1) | (leave1; (try dsimp only)) | fail "no step"))
    all_goals assumption
  clear hzs
  refine eps1 ((?_ : All1 _) _); intros z1 hz1
  replace hz1 := hz1; rw [List.map_id', hC.bishopNear] at hz1
  (repeat' (first | ((with_reducible show LCt.CompSrcT ..); refine Stop.out ?_) | ((with_reducible show wpAny _ _ (eval (PySem.Expr.ListComp ..) _) _ _ _); lct_look; k_dflt (refine LCt.ListComp_T (F₀ := by k_asm) (by with_unfolding_all rfl) (by decide) (by rfl) (by decide) (by rfl) ?_)) | ((with_reducible show LCg.FinE ..); unfold LCg.FinE; refine eps3 ((?_ : All3 _) _ _ _); intros D' h' tk' F' N' o1'; (try dsimp only)) | (k_end; wrow_close) | walk1 | (dsimp only; walk1) | (leave1; (try dsimp only)) | fail "no step"))
  refine Stop.mk ?_
  k_dflt (refine LCt.CompSrcT.ledger (by rfl) (by k_asm) (by k_asm) (by k_mem) (line_len hns.length (nearV_len F (F * R).toNat sq) hS) ?_)
  refine eps1 ((?_ : All1 _) _); intros g8
  delta At1
  refine ct_list (fun q => unlikeV F sq q == 0) (fun q => q) hns ?_ ?_
  · refine eps12 ((?_ : All12 _) _ _ _ _ _ _ _ _ _ _ _ _); intros k' t' I' oI' C' oC' D' m' ys' h' tk' E' hk' hC' hx' F' N' off' ne'
    obtain ⟨hk0, hk1⟩ := mem_nearF hN0 hk'
    have hg := hUg k' (by omega) (by omega)
    (repeat' (first | (with_reducible first | refine const_tk ?_ | refine and_tk ?_ | refine or_tk ?_ | refine ior_tk ?_ | refine add_tk ?_ | refine sub_tk ?_ | refine inv_tk ?_) | ((with_reducible show wpAny _ _ (subscriptTail _ _ (Value.ref _) (Value.int _ _)) _ _ _); k_dflt (refine' ksa_sub ?k1 ?k2 ?k3 ?k4 ?k5 ?k6 ?_ ?k7; (case k1 => k_asm); (case k2 => k_mem); (case k3 => with_reducible assumption); (case k4 => (first | with_reducible assumption | exact lt_len (by with_reducible assumption) (by first | with_reducible assumption | exact And.right (by with_reducible assumption) | exact in_hi (by with_reducible assumption) (by with_reducible assumption)) | exact lt63 (by with_reducible assumption) (by first | with_reducible assumption | exact And.right (by with_reducible assumption) | exact in_hi (by with_reducible assumption) (by with_reducible assumption)))); (case k5 => (first | with_reducible assumption | exact lt_len (by with_reducible assumption) (by first | with_reducible assumption | exact And.right (by with_reducible assumption) | exact in_hi (by with_reducible assumption) (by with_reducible assumption)) | exact lt63 (by with_reducible assumption) (by first | with_reducible assumption | exact And.right (by with_reducible assumption) | exact in_hi (by with_reducible assumption) (by with_reducible assumption)))); (case k6 => (first | with_reducible assumption | exact lt_len (by with_reducible assumption) (by first | with_reducible assumption | exact And.right (by with_reducible assumption) | exact in_hi (by with_reducible assumption) (by with_reducible assumption)) | exact lt63 (by with_reducible assumption) (by first | with_reducible assumption | exact And.right (by with_reducible assumption) | exact in_hi (by with_reducible assumption) (by with_reducible assumption)))); (case k7 => with_unfolding_all rfl); k_whole); refine eps1 ((?_ : All1 _) _); intros t9; delta At1; (try dsimp only)) | ((with_reducible show LCg.CompEnd _ _ _ _ _ _ _ _ _ _ _ (fun y n => CtYes _ _ _ y n) _ _); (refine' ct_yes ?c1 ?c2 ?c3 ?c4 ?c5 ?_ ?c7; (case c1 => k_asm); (case c2 => k_asm); (case c3 => exact fun _ h => h); (case c4 => assumption); (case c5 => first | exact True.intro | assumption | exact Or.inr ⟨_, by k_mem, rfl, _, rfl⟩); (case c7 => rfl))) | ((with_reducible show LCg.CompEnd _ _ _ _ _ _ _ _ _ _ _ (fun y n => CtNo _ _ y n) _ _); (refine' ct_no ?c1 ?c2 ?c3 ?c4 ?c5 ?_; (case c1 => k_asm); (case c2 => k_asm); (case c3 => exact fun _ h => h); (case c4 => assumption); (case c5 => first | exact True.intro | assumption | exact Or.inr ⟨_, by k_mem, rfl, _, rfl⟩))) | (k_end; wrow_close) | walk1 | (dsimp only; walk1) | (leave1; (try dsimp only)) | fail "no step"))
    all_goals (rw [← hg]; first | exact beq_iff_eq.mpr (by assumption) | exact beq_eq_false_iff_ne.mpr (by assumption))
  refine eps1 ((?_ : All1 _) _); intros z2 hz2
  replace hz2 := hz2; rw [List.map_id'] at hz2
  (repeat' (first | ((with_reducible show LCt.CompSrcT ..); refine Stop.out ?_) | ((with_reducible show wpAny _ _ (eval (PySem.Expr.ListComp ..) _) _ _ _); lct_look; k_dflt (refine LCt.ListComp_T (F₀ := by k_asm) (by with_unfolding_all rfl) (by decide) (by rfl) (by decide) (by rfl) ?_)) | ((with_reducible show LCg.FinE ..); unfold LCg.FinE; refine eps3 ((?_ : All3 _) _ _ _); intros D' h' tk' F' N' o1'; (try dsimp only)) | (k_end; wrow_close) | walk1 | (dsimp only; walk1) | (leave1; (try dsimp only)) | fail "no step"))
  refine Stop.mk ?_
  k_dflt (refine LCt.CompSrcT.ledger (by rfl) (by k_asm) (by k_asm) (by k_mem) (line_len hR4.length (seenV_len T (F * R).toNat 0 4 sq men) hS) ?_)
  refine eps1 ((?_ : All1 _) _); intros g8
  delta At1
  refine ct_list (fun q => (nearV F (F * R).toNat sq).any fun x => x == q) (fun q => q) hR4 ?_ ?_
  · refine eps12 ((?_ : All12 _) _ _ _ _ _ _ _ _ _ _ _ _); intros k' t' I' oI' C' oC' D' m' ys' h' tk' E' hk' hC' hx' F' N' off' ne'
    obtain ⟨hk0, hk1⟩ := mem_seenF hN0 hk'
    (repeat' (first | ((with_reducible show LCg.CompEnd _ _ _ _ _ _ _ _ _ _ _ (fun y n => CtYes _ _ _ y n) _ _); (refine' ct_yes ?c1 ?c2 ?c3 ?c4 ?c5 ?_ ?c7; (case c1 => k_asm); (case c2 => k_asm); (case c3 => exact fun _ h => h); (case c4 => assumption); (case c5 => first | exact True.intro | assumption | exact Or.inr ⟨_, by k_mem, rfl, _, rfl⟩); (case c7 => rfl))) | ((with_reducible show LCg.CompEnd _ _ _ _ _ _ _ _ _ _ _ (fun y n => CtNo _ _ y n) _ _); (refine' ct_no ?c1 ?c2 ?c3 ?c4 ?c5 ?_; (case c1 => k_asm); (case c2 => k_asm); (case c3 => exact fun _ h => h); (case c4 => assumption); (case c5 => first | exact True.intro | assumption | exact Or.inr ⟨_, by k_mem, rfl, _, rfl⟩))) | (k_end; wrow_close) | walk1 | (dsimp only; walk1) | (leave1; (try dsimp only)) | fail "no step"))
    all_goals assumption
  clear hz1 hz2
  refine eps1 ((?_ : All1 _) _); intros z3 hz3
  replace hz3 := hz3; rw [List.map_id', hC.rookNear] at hz3
  (repeat' (first | ((with_reducible show LCt.CompSrcT ..); refine Stop.out ?_) | ((with_reducible show wpAny _ _ (eval (PySem.Expr.ListComp ..) _) _ _ _); lct_look; k_dflt (refine LCt.ListComp_T (F₀ := by k_asm) (by with_unfolding_all rfl) (by decide) (by rfl) (by decide) (by rfl) ?_)) | ((with_reducible show LCg.FinE ..); unfold LCg.FinE; refine eps3 ((?_ : All3 _) _ _ _); intros D' h' tk' F' N' o1'; (try dsimp only)) | (k_end; wrow_close) | walk1 | (dsimp only; walk1) | (leave1; (try dsimp only)) | fail "no step"))
  refine Stop.mk ?_
  k_dflt (refine LCt.CompSrcT.ledger (by rfl) (by k_asm) (by k_asm) (by k_mem) (line_len hns.length (nearV_len F (F * R).toNat sq) hS) ?_)
  refine eps1 ((?_ : All1 _) _); intros g8
  delta At1
  refine ct_list (fun q => unlikeV F sq q == 1) (fun q => q) hns ?_ ?_
  · refine eps12 ((?_ : All12 _) _ _ _ _ _ _ _ _ _ _ _ _); intros k' t' I' oI' C' oC' D' m' ys' h' tk' E' hk' hC' hx' F' N' off' ne'
    obtain ⟨hk0, hk1⟩ := mem_nearF hN0 hk'
    have hg := hUg k' (by omega) (by omega)
    (repeat' (first | (with_reducible first | refine const_tk ?_ | refine and_tk ?_ | refine or_tk ?_ | refine ior_tk ?_ | refine add_tk ?_ | refine sub_tk ?_ | refine inv_tk ?_) | ((with_reducible show wpAny _ _ (subscriptTail _ _ (Value.ref _) (Value.int _ _)) _ _ _); k_dflt (refine' ksa_sub ?k1 ?k2 ?k3 ?k4 ?k5 ?k6 ?_ ?k7; (case k1 => k_asm); (case k2 => k_mem); (case k3 => with_reducible assumption); (case k4 => (first | with_reducible assumption | exact lt_len (by with_reducible assumption) (by first | with_reducible assumption | exact And.right (by with_reducible assumption) | exact in_hi (by with_reducible assumption) (by with_reducible assumption)) | exact lt63 (by with_reducible assumption) (by first | with_reducible assumption | exact And.right (by with_reducible assumption) | exact in_hi (by with_reducible assumption) (by with_reducible assumption)))); (case k5 => (first | with_reducible assumption | exact lt_len (by with_reducible assumption) (by first | with_reducible assumption | exact And.right (by with_reducible assumption) | exact in_hi (by with_reducible assumption) (by with_reducible assumption)) | exact lt63 (by with_reducible assumption) (by first | with_reducible assumption | exact And.right (by with_reducible assumption) | exact in_hi (by with_reducible assumption) (by with_reducible assumption)))); (case k6 => (first | with_reducible assumption | exact lt_len (by with_reducible assumption) (by first | with_reducible assumption | exact And.right (by with_reducible assumption) | exact in_hi (by with_reducible assumption) (by with_reducible assumption)) | exact lt63 (by with_reducible assumption) (by first | with_reducible assumption | exact And.right (by with_reducible assumption) | exact in_hi (by with_reducible assumption) (by with_reducible assumption)))); (case k7 => with_unfolding_all rfl); k_whole); refine eps1 ((?_ : All1 _) _); intros t9; delta At1; (try dsimp only)) | ((with_reducible show LCg.CompEnd _ _ _ _ _ _ _ _ _ _ _ (fun y n => CtYes _ _ _ y n) _ _); (refine' ct_yes ?c1 ?c2 ?c3 ?c4 ?c5 ?_ ?c7; (case c1 => k_asm); (case c2 => k_asm); (case c3 => exact fun _ h => h); (case c4 => assumption); (case c5 => first | exact True.intro | assumption | exact Or.inr ⟨_, by k_mem, rfl, _, rfl⟩); (case c7 => rfl))) | ((with_reducible show LCg.CompEnd _ _ _ _ _ _ _ _ _ _ _ (fun y n => CtNo _ _ y n) _ _); (refine' ct_no ?c1 ?c2 ?c3 ?c4 ?c5 ?_; (case c1 => k_asm); (case c2 => k_asm); (case c3 => exact fun _ h => h); (case c4 => assumption); (case c5 => first | exact True.intro | assumption | exact Or.inr ⟨_, by k_mem, rfl, _, rfl⟩))) | (k_end; wrow_close) | walk1 | (dsimp only; walk1) | (leave1; (try dsimp only)) | fail "no step"))
    all_goals (rw [← hg]; first | exact beq_iff_eq.mpr (by assumption) | exact beq_eq_false_iff_ne.mpr (by assumption))
  refine eps1 ((?_ : All1 _) _); intros z4 hz4
  replace hz4 := hz4; rw [List.map_id'] at hz4
  have hpl : (seenV T (F * R).toNat 0 1 sq men).length + (seenV T (F * R).toNat 1 1 sq men).length < 64 := by
    have h1 := hC.pawns.length_eq
    replace h1 := h1; rw [List.length_append] at h1
    rw [h1]
    have h2 := List.length_filter_le (fun q => unlikeV F sq q == 0) (nearV F (F * R).toNat sq)
    have h3 := nearV_len F (F * R).toNat sq
    omega
  (repeat' (first | ((with_reducible show wpAny _ _ (call (Value.ref 181) _) _ _ _); k_dflt (refine' seen_c ?k1 ?k2 ?k3 ?k4 ?k5 ?k6 ?g ?gt ?gf ?gr ?gs ?a0 ?a1 ?a2 ?d ?u ?_; (case k1 => k_asm); (case k2 => k_asm); (case k3 => k_asm); (case k4 => k_asm); (case k5 => k_asm); (case k6 => first | exact rfl | assumption); (case g => (refine' GeoOk.cons ?gg; (case gg => (refine' GeoOk.cons ?gg; (case gg => (refine' GeoOk.cons ?gg; (case gg => (refine' GeoOk.cons ?gg; (case gg => (refine' GeoOk.cons ?gg; (case gg => (refine' GeoOk.cons ?gg; (case gg => (refine' GeoOk.cons ?gg; (case gg => (refine' GeoOk.cons ?gg; (case gg => (refine' GeoOk.cons ?gg; (case gg => (refine' GeoOk.cons ?gg; (case gg => (refine' GeoOk.cons ?gg; (case gg => (refine' GeoOk.cons ?gg; (case gg => (refine' GeoOk.cons ?gg; (case gg => (refine' GeoOk.cons ?gg; (case gg => (refine' GeoOk.cons ?gg; (case gg => (refine' GeoOk.cons ?gg; (case gg => (refine' GeoOk.cons ?gg; (case gg => (refine' GeoOk.cons ?gg; (case gg => (refine' GeoOk.cons ?gg; (case gg => (refine' GeoOk.cons ?gg; (case gg => (first | assumption | (refine' GeoOk.cons ?gg; (case gg => assumption)))))))))))))))))))))))))))))))))))))))))))); (case gt => assumption); (case gf => assumption); (case gr => assumption); (case gs => assumption); (case a0 => (first | with_reducible assumption | decide)); (case a1 => (first | with_reducible assumption | decide)); (case a2 => (first | with_reducible assumption | decide)); (case d => (first | exact room2 hd rfl | exact room1 hd rfl | exact room0 hd | ktr_room)); (case u => (dsimp only [ktrTop, units_deeper]; first | exact hu | exact room2 hu rfl | exact room1 hu rfl | omega)); refine eps4 ((?_ : All4 _) _ _ _ _); intros D9 ys9 h9 tk9 F9 N9 o9 i9; clear o9; (try dsimp only))) | ((with_reducible show wpAny _ _ (storeName _ _ _) _ _ _); k_dflt (refine' storeX_L ?sF ?sN ?_ ?sa ?sb; (case sF => k_asm); (case sN => k_asm); (case sa => rfl); (case sb => rfl); k_whole; refine eps1 ((?_ : All1 _) _); intros h' F' N'; (try k_sweep))) | ((with_reducible show LCt.CompSrcT ..); refine Stop.out ?_) | ((with_reducible show wpAny _ _ (eval (PySem.Expr.ListComp ..) _) _ _ _); lct_look; k_dflt (refine LCt.ListComp_T (F₀ := by k_asm) (by with_unfolding_all rfl) (by decide) (by rfl) (by decide) (by rfl) ?_)) | ((with_reducible show LCg.FinE ..); unfold LCg.FinE; refine eps3 ((?_ : All3 _) _ _ _); intros D' h' tk' F' N' o1'; (try dsimp only)) | ((with_reducible show wpAny _ _ (binaryOp Operator.Add (Value.ref _) (Value.ref _)) _ _ _); k_dflt (refine' add_lists_ints (hsz := ?z) ?F ?N ?a ?b ?i ?j ?_; (case F => k_asm); (case N => k_asm); (case a => is_list); (case b => is_list); (case i => with_reducible assumption); (case j => with_reducible assumption); (case z => (rw [PySem.sizeLine_eq]; omega))); refine eps1 ((?_ : All1 _) _); intros h9 F9 N9 i9; (try dsimp only)) | ((with_reducible show wpAny _ _ (call (Value.builtin _) [Value.ref _]) _ _ _); k_dflt (refine' kso_sorted ?F ?N ?a ?i ?z ?_; (case F => k_asm); (case N => k_asm); (case a => is_list); (case i => with_reducible assumption); (case z => (rw [List.length_append]; omega))); refine eps5 ((?_ : All5 _) _ _ _ _ _); intros D9 v9 n9 c9 h9 F9 N9 l9 i9 e9 p9 o9 b9; clear l9 b9 e9; (try dsimp only)) | (k_end; wrow_close) | walk1 | (dsimp only; walk1) | (leave1; (try dsimp only)) | fail "no step"))
  refine Stop.mk ?_
  clear hz3 hz4
  with_reducible rename List.Perm _ (seenV T _ 0 1 _ _ ++ _) => hp1
  with_reducible rename List.Pairwise _ _ => ho1
  have hsE := sorted_unique (hp1.trans hC.pawns) ho1 (nearV_sorted F _ sq _)
  subst hsE
  clear hp1 ho1
  k_dflt (refine LCt.CompSrcT.ledger (by rfl) (by k_asm) (by k_asm) (by k_mem) (line_len hns.length (nearV_len F (F * R).toNat sq) hS) ?_)
  refine eps1 ((?_ : All1 _) _); intros g8
  delta At1
  refine ct_list (fun q => unlikeV F sq q == 0) (fun q => q) hns ?_ ?_
  · refine eps12 ((?_ : All12 _) _ _ _ _ _ _ _ _ _ _ _ _); intros k' t' I' oI' C' oC' D' m' ys' h' tk' E' hk' hC' hx' F' N' off' ne'
    obtain ⟨hk0, hk1⟩ := mem_nearF hN0 hk'
    have hg := hUg k' (by omega) (by omega)
    (repeat' (first | (with_reducible first | refine const_tk ?_ | refine and_tk ?_ | refine or_tk ?_ | refine ior_tk ?_ | refine add_tk ?_ | refine sub_tk ?_ | refine inv_tk ?_) | ((with_reducible show wpAny _ _ (subscriptTail _ _ (Value.ref _) (Value.int _ _)) _ _ _); k_dflt (refine' ksa_sub ?k1 ?k2 ?k3 ?k4 ?k5 ?k6 ?_ ?k7; (case k1 => k_asm); (case k2 => k_mem); (case k3 => with_reducible assumption); (case k4 => (first | with_reducible assumption | exact lt_len (by with_reducible assumption) (by first | with_reducible assumption | exact And.right (by with_reducible assumption) | exact in_hi (by with_reducible assumption) (by with_reducible assumption)) | exact lt63 (by with_reducible assumption) (by first | with_reducible assumption | exact And.right (by with_reducible assumption) | exact in_hi (by with_reducible assumption) (by with_reducible assumption)))); (case k5 => (first | with_reducible assumption | exact lt_len (by with_reducible assumption) (by first | with_reducible assumption | exact And.right (by with_reducible assumption) | exact in_hi (by with_reducible assumption) (by with_reducible assumption)) | exact lt63 (by with_reducible assumption) (by first | with_reducible assumption | exact And.right (by with_reducible assumption) | exact in_hi (by with_reducible assumption) (by with_reducible assumption)))); (case k6 => (first | with_reducible assumption | exact lt_len (by with_reducible assumption) (by first | with_reducible assumption | exact And.right (by with_reducible assumption) | exact in_hi (by with_reducible assumption) (by with_reducible assumption)) | exact lt63 (by with_reducible assumption) (by first | with_reducible assumption | exact And.right (by with_reducible assumption) | exact in_hi (by with_reducible assumption) (by with_reducible assumption)))); (case k7 => with_unfolding_all rfl); k_whole); refine eps1 ((?_ : All1 _) _); intros t9; delta At1; (try dsimp only)) | ((with_reducible show LCg.CompEnd _ _ _ _ _ _ _ _ _ _ _ (fun y n => CtYes _ _ _ y n) _ _); (refine' ct_yes ?c1 ?c2 ?c3 ?c4 ?c5 ?_ ?c7; (case c1 => k_asm); (case c2 => k_asm); (case c3 => exact fun _ h => h); (case c4 => assumption); (case c5 => first | exact True.intro | assumption | exact Or.inr ⟨_, by k_mem, rfl, _, rfl⟩); (case c7 => rfl))) | ((with_reducible show LCg.CompEnd _ _ _ _ _ _ _ _ _ _ _ (fun y n => CtNo _ _ y n) _ _); (refine' ct_no ?c1 ?c2 ?c3 ?c4 ?c5 ?_; (case c1 => k_asm); (case c2 => k_asm); (case c3 => exact fun _ h => h); (case c4 => assumption); (case c5 => first | exact True.intro | assumption | exact Or.inr ⟨_, by k_mem, rfl, _, rfl⟩))) | (k_end; wrow_close) | walk1 | (dsimp only; walk1) | (leave1; (try dsimp only)) | fail "no step"))
    all_goals (rw [← hg]; first | exact beq_iff_eq.mpr (by assumption) | exact beq_eq_false_iff_ne.mpr (by assumption))
  refine eps1 ((?_ : All1 _) _); intros z5 hz5
  replace hz5 := hz5; rw [List.map_id'] at hz5
  (repeat' (first | ((with_reducible show wpAny _ _ (getAttr (Value.ref _) _ _) _ _ _); k_dflt (refine' get_own ?k1 ?k2 ?k3 ?k4 ?k5 ?k6 ?k7 ?k8 ?k9 ?_; (case k1 => k_asm); (case k2 => k_asm); (case k3 => k_inst); (case k4 => k_is); (case k5 => k_is); (case k6 => k_is); (case k7 => k_is); (case k8 => first | (with_reducible assumption) | exact (getL_put_ne (by decide) _).trans (by with_reducible assumption) | exact getL_put_self _); (case k9 => k_handed); k_whole)) | ((with_reducible show LCt.CompSrcT ..); refine Stop.out ?_) | ((with_reducible show wpAny _ _ (exec (PySem.Stmt.Assign ..) _) _ _ _); lct_look; k_dflt (refine LCt.Assign_ListComp_T (F₀ := by k_asm) (by rfl) (by with_unfolding_all rfl) (by with_unfolding_all rfl) (by decide) (by rfl) (by decide) (by rfl) (by rfl) (by rfl) ?_)) | ((with_reducible show LCg.FinE ..); unfold LCg.FinE; refine eps3 ((?_ : All3 _) _ _ _); intros D' h' tk' F' N' o1'; (try dsimp only)) | ((with_reducible show wpAny _ _ (call (Value.type _) _) _ _ _); (with_reducible rename Fr _ _ _ _ => F8); (with_reducible rename News _ _ _ _ => N8); first | (with_unfolding_all refine range1_rows F8 N8 ?_; refine eps5 ((?_ : All5 _) _ _ _ _ _); intros _ _ _ _ _ _ _ _ _) | (with_unfolding_all refine range2_rows F8 N8 ?_; refine eps5 ((?_ : All5 _) _ _ _ _ _); intros _ _ _ _ _ _ _ _ _) | (with_unfolding_all refine range3_rows F8 N8 (by decide) ?_; refine eps5 ((?_ : All5 _) _ _ _ _ _); intros _ _ _ _ _ _ _ _ _)) | (k_end; wrow_close) | walk1 | (dsimp only; walk1) | (leave1; (try dsimp only)) | fail "no step"))
  refine Stop.mk ?_
  k_dflt (refine LCt.CompSrcT.range (by rfl) (by k_asm) (by k_asm) (by assumption) (small_FR hN0 hS) (rangeSize_nat _ _) (line_FR hS) ?_)
  refine eps1 ((?_ : All1 _) _); intros g9
  delta At1
  refine ct_range (fun q => distV F sq q == 2 && unlikeV F sq q == 1) (fun q => q) ?_ ?_
  · refine eps12 ((?_ : All12 _) _ _ _ _ _ _ _ _ _ _ _ _); intros k' t' I' oI' C' oC' D' m' ys' h' tk' E' hlo' hhi' hC' hx' F' N' off' ne'; have hhi9 := range_hi hN0 hhi'; clear hhi'
    have hg := hUg k' (by omega) (by omega)
    have hg2 := hWg k' (by omega) (by omega)
    (repeat' (first | (with_reducible first | refine const_tk ?_ | refine and_tk ?_ | refine or_tk ?_ | refine ior_tk ?_ | refine add_tk ?_ | refine sub_tk ?_ | refine inv_tk ?_) | ((with_reducible show wpAny _ _ (subscriptTail _ _ (Value.ref _) (Value.int _ _)) _ _ _); k_dflt (refine' ksa_sub ?k1 ?k2 ?k3 ?k4 ?k5 ?k6 ?_ ?k7; (case k1 => k_asm); (case k2 => k_mem); (case k3 => with_reducible assumption); (case k4 => (first | with_reducible assumption | exact lt_len (by with_reducible assumption) (by first | with_reducible assumption | exact And.right (by with_reducible assumption) | exact in_hi (by with_reducible assumption) (by with_reducible assumption)) | exact lt63 (by with_reducible assumption) (by first | with_reducible assumption | exact And.right (by with_reducible assumption) | exact in_hi (by with_reducible assumption) (by with_reducible assumption)))); (case k5 => (first | with_reducible assumption | exact lt_len (by with_reducible assumption) (by first | with_reducible assumption | exact And.right (by with_reducible assumption) | exact in_hi (by with_reducible assumption) (by with_reducible assumption)) | exact lt63 (by with_reducible assumption) (by first | with_reducible assumption | exact And.right (by with_reducible assumption) | exact in_hi (by with_reducible assumption) (by with_reducible assumption)))); (case k6 => (first | with_reducible assumption | exact lt_len (by with_reducible assumption) (by first | with_reducible assumption | exact And.right (by with_reducible assumption) | exact in_hi (by with_reducible assumption) (by with_reducible assumption)) | exact lt63 (by with_reducible assumption) (by first | with_reducible assumption | exact And.right (by with_reducible assumption) | exact in_hi (by with_reducible assumption) (by with_reducible assumption)))); (case k7 => with_unfolding_all rfl); k_whole); refine eps1 ((?_ : All1 _) _); intros t9; delta At1; (try dsimp only)) | ((with_reducible show LCg.CompEnd _ _ _ _ _ _ _ _ _ _ _ (fun y n => CtYes _ _ _ y n) _ _); (refine' ct_yes ?c1 ?c2 ?c3 ?c4 ?c5 ?_ ?c7; (case c1 => k_asm); (case c2 => k_asm); (case c3 => exact fun _ h => h); (case c4 => assumption); (case c5 => first | exact True.intro | assumption | exact Or.inr ⟨_, by k_mem, rfl, _, rfl⟩); (case c7 => rfl))) | ((with_reducible show LCg.CompEnd _ _ _ _ _ _ _ _ _ _ _ (fun y n => CtNo _ _ y n) _ _); (refine' ct_no ?c1 ?c2 ?c3 ?c4 ?c5 ?_; (case c1 => k_asm); (case c2 => k_asm); (case c3 => exact fun _ h => h); (case c4 => assumption); (case c5 => first | exact True.intro | assumption | exact Or.inr ⟨_, by k_mem, rfl, _, rfl⟩))) | (k_end; wrow_close) | walk1 | (dsimp only; walk1) | (leave1; (try dsimp only)) | fail "no step"))
    all_goals (rw [← hg, ← hg2]; first | exact Bool.and_eq_true_iff.mpr ⟨beq_iff_eq.mpr (by assumption), beq_iff_eq.mpr (by assumption)⟩ | exact Bool.and_eq_false_iff.mpr (Or.inl (beq_eq_false_iff_ne.mpr (by assumption))) | exact Bool.and_eq_false_iff.mpr (Or.inr (beq_eq_false_iff_ne.mpr (by assumption))))
  clear hz5
  refine eps1 ((?_ : All1 _) _); intros z6 hz6
  replace hz6 := hz6; rw [List.map_id', Int.sub_zero, ← hC.knight] at hz6
  have hql : (seenV T (F * R).toNat 0 3 sq men).length + (seenV T (F * R).toNat 0 4 sq men).length < 64 := by
    have h1 := hC.queen.length_eq
    replace h1 := h1; rw [List.length_append] at h1
    rw [h1]
    have h3 := seenV_len T (F * R).toNat 0 5 sq men
    omega
  (repeat' (first | ((with_reducible show wpAny _ _ (call (Value.ref 181) _) _ _ _); k_dflt (refine' seen_c ?k1 ?k2 ?k3 ?k4 ?k5 ?k6 ?g ?gt ?gf ?gr ?gs ?a0 ?a1 ?a2 ?d ?u ?_; (case k1 => k_asm); (case k2 => k_asm); (case k3 => k_asm); (case k4 => k_asm); (case k5 => k_asm); (case k6 => first | exact rfl | assumption); (case g => (refine' GeoOk.cons ?gg; (case gg => (refine' GeoOk.cons ?gg; (case gg => (refine' GeoOk.cons ?gg; (case gg => (refine' GeoOk.cons ?gg; (case gg => (refine' GeoOk.cons ?gg; (case gg => (refine' GeoOk.cons ?gg; (case gg => (refine' GeoOk.cons ?gg; (case gg => (refine' GeoOk.cons ?gg; (case gg => (refine' GeoOk.cons ?gg; (case gg => (refine' GeoOk.cons ?gg; (case gg => (refine' GeoOk.cons ?gg; (case gg => (refine' GeoOk.cons ?gg; (case gg => (refine' GeoOk.cons ?gg; (case gg => (refine' GeoOk.cons ?gg; (case gg => (refine' GeoOk.cons ?gg; (case gg => (refine' GeoOk.cons ?gg; (case gg => (refine' GeoOk.cons ?gg; (case gg => (refine' GeoOk.cons ?gg; (case gg => (refine' GeoOk.cons ?gg; (case gg => (refine' GeoOk.cons ?gg; (case gg => (refine' GeoOk.cons ?gg; (case gg => (refine' GeoOk.cons ?gg; (case gg => (refine' GeoOk.cons ?gg; (case gg => (refine' GeoOk.cons ?gg; (case gg => (refine' GeoOk.cons ?gg; (case gg => (refine' GeoOk.cons ?gg; (case gg => (first | assumption | (refine' GeoOk.cons ?gg; (case gg => assumption)))))))))))))))))))))))))))))))))))))))))))))))))))))))); (case gt => assumption); (case gf => assumption); (case gr => assumption); (case gs => assumption); (case a0 => (first | with_reducible assumption | decide)); (case a1 => (first | with_reducible assumption | decide)); (case a2 => (first | with_reducible assumption | decide)); (case d => (first | exact room2 hd rfl | exact room1 hd rfl | exact room0 hd | ktr_room)); (case u => (dsimp only [ktrTop, units_deeper]; first | exact hu | exact room2 hu rfl | exact room1 hu rfl | omega)); refine eps4 ((?_ : All4 _) _ _ _ _); intros D9 ys9 h9 tk9 F9 N9 o9 i9; clear o9; (try dsimp only))) | ((with_reducible show LCg.FinA ..); unfold LCg.FinA; refine eps3 ((?_ : All3 _) _ _ _); intros D' h' tk' F' N' o1'; (try dsimp only)) | ((with_reducible show wpAny _ _ (binaryOp Operator.Add (Value.ref _) (Value.ref _)) _ _ _); k_dflt (refine' add_lists_ints (hsz := ?z) ?F ?N ?a ?b ?i ?j ?_; (case F => k_asm); (case N => k_asm); (case a => is_list); (case b => is_list); (case i => with_reducible assumption); (case j => with_reducible assumption); (case z => (rw [PySem.sizeLine_eq]; omega))); refine eps1 ((?_ : All1 _) _); intros h9 F9 N9 i9; (try dsimp only)) | ((with_reducible show wpAny _ _ (call (Value.builtin _) [Value.ref _]) _ _ _); k_dflt (refine' kso_sorted ?F ?N ?a ?i ?z ?_; (case F => k_asm); (case N => k_asm); (case a => is_list); (case i => with_reducible assumption); (case z => (rw [List.length_append]; omega))); refine eps5 ((?_ : All5 _) _ _ _ _ _); intros D9 v9 n9 c9 h9 F9 N9 l9 i9 e9 p9 o9 b9; clear l9 b9 e9; (try dsimp only)) | (k_end; wrow_close) | walk1 | (dsimp only; walk1) | (leave1; (try dsimp only)) | fail "no step"))
  with_reducible rename List.Perm _ (seenV T _ 0 3 _ _ ++ _) => hp2
  with_reducible rename List.Pairwise _ _ => ho2
  have hE2 := sorted_unique (hp2.trans hC.queen) ho2 (seenV_sorted ..)
  with_reducible rename News h₀ L _ _ => kN9
  refine cb_retB hret (decide_eq_true hE2.symm) (by k_asm) (cb_drop kN9 ?_)
  intro p hp
  repeat (first | exact hp | apply List.Mem.tail)
theorem col_c {w : World} {p : Program} {loose : List Str} {mean : ExcName → Option Value} {mg mb : Str → Option Value}
  {dp un : Nat} {gd : Option (List Code)} {cn : Str} {cs : Scope} {a : Addr} {ccd : Value} {cl : List (Str × Addr)} {outer : List Env} {A₀ : Around} {base h₀ : Heap} {L : Addr} {m : Str → Option Value} {s : Shared} {Q E : Value → Shared → Prop}
  {news : List (Addr × Obj)} {g : Addr} {F R : Int} {T : Tabs} {sq men : Int} {t1 t2 : Tok}
  (B : Below A₀ base outer h₀) (Fr0 : Fr h₀ L s.heap m) (X : (hd.heap_39 w.params).In h₀) (N : News h₀ L s.heap news) (Tp : Top p loose mean mg mb h₀) (hk : cs.kind = .function)
  (hG : GeoOk news g F R T) (hT : TabsLen T (F * R)) (hF : 3 ≤ F ∧ F ≤ 6) (hR : 3 ≤ R ∧ R ≤ 6) (hS : F * R ≤ 36) (hsq : 0 ≤ sq ∧ sq < F * R)
  (hC : Coloured T F (F * R).toNat sq men)
  (hd : dp + 9 < recursionLimit) (hu : un + 80 < cLine)
  (hret : ∀ (t : Tok) (h' : Heap) (tk' : Nat), Fr h₀ L h' m → News h₀ L h' news → Q (.bool true) { s with heap := h', toks := tk' }) :
  wpAny (model PySem.Challenge.rw_tg0014_01.row.toRowW.1 w) (ktrTop dp un gd cn cs L a ccd cl outer) (call (.ref 186) [.ref g, .int sq t1, .int men t2]) Q E s :=
  col_c_q ⟨⟨w, p, loose, mean, mg, mb, dp, un, gd, cn, cs, a, ccd, cl, outer, A₀, base, h₀, L, m, s, Q, E, news, g, F, R, T, 0, [], 0⟩, sq, men, t1, t2⟩ B Fr0 X N Tp hk hG hT hF hR hS hsq hC hd hu hret

def pick_c_P (w : World) (p : Program) (loose : List Str) (mean : ExcName → Option Value) (mg : Str → Option Value) (mb : Str → Option Value) (dp : Nat) (un : Nat) (gd : Option (List Code)) (cn : Str) (cs : Scope) (a : Addr) (ccd : Value) (cl : List (Str × Addr)) (outer : List Env) (A₀ : Around) (base : Heap) (h₀ : Heap) (L : Addr) (m : Str → Option Value) (s : Shared) (Q : Value → Shared → Prop) (E : Value → Shared → Prop) (rest : List (Addr × Obj)) (hA : Addr) (sl : Addr) (k : Int) (many : Int) (tk0 : Tok) (t1 : Tok) (n : Nat) (c : Nat) (vs : List Value) (ns : List Int) : Prop := ∀ (B : Below A₀ base outer h₀) (Fr0 : Fr h₀ L s.heap m) (X : (hd.heap_39 w.params).In h₀) (N : News h₀ L s.heap ((hA, listOf #[.ref sl, .int k tk0] n) :: rest)) (Tp : Top p loose mean mg mb h₀) (hk : cs.kind = .function)
  (hsl : (sl, listOf vs.toArray c) ∈ rest) (hi : IntsAre vs ns) (hln : ns.length ≤ 11) (hoff : ∀ p ∈ rest, p.1 ≠ hA) (hk0 : 0 ≤ k ∧ k ≤ 20) (hm : 1 ≤ many ∧ many ≤ 36)
  (hd : dp + 2 < recursionLimit) (hu : un + 16 < cLine)
  (hret : ∀ (v : Int) (t t' : Tok) (h' : Heap) (tk' : Nat), 0 ≤ v → v < many → Fr h₀ L h' m → News h₀ L h' ((hA, listOf #[.ref sl, .int (k + 1) t'] n) :: rest) → Q (.int v t) { s with heap := h', toks := tk' }),
  wpAny (model PySem.Challenge.rw_tg0014_01.row.toRowW.1 w) (ktrTop dp un gd cn cs L a ccd cl outer) (call (.ref 176) [.ref hA, .int many t1]) Q E s
set_option maxRecDepth 100000 in
set_option maxHeartbeats 8000000 in
theorem pick_c_q : ∀ x : Ctx × (Addr) × (Addr) × (Int) × (Int) × (Tok) × (Tok) × (Nat) × (Nat) × (List Value) × (List Int), pick_c_P x.1.w x.1.p x.1.loose x.1.mean x.1.mg x.1.mb x.1.dp x.1.un x.1.gd x.1.cn x.1.cs x.1.a x.1.ccd x.1.cl x.1.outer x.1.A₀ x.1.base x.1.h₀ x.1.L x.1.m x.1.s x.1.Q x.1.E x.1.news x.2.1 x.2.2.1 x.2.2.2.1 x.2.2.2.2.1 x.2.2.2.2.2.1 x.2.2.2.2.2.2.1 x.2.2.2.2.2.2.2.1 x.2.2.2.2.2.2.2.2.1 x.2.2.2.2.2.2.2.2.2.1 x.2.2.2.2.2.2.2.2.2.2 := by
  refine eps_c ((?_ : ∀ w p loose mean mg mb dp un gd cn cs a ccd cl outer A₀ base h₀ L m s Q E rest hA sl k many tk0 t1 n c vs ns, pick_c_P w p loose mean mg mb dp un gd cn cs a ccd cl outer A₀ base h₀ L m s Q E rest hA sl k many tk0 t1 n c vs ns) _ _ _ _ _ _ _ _ _ _ _ _ _ _ _ _ _ _ _ _ _ _ _ _ _ _ _ _ _ _ _ _ _ _)
  intros w p loose mean mg mb dp un gd cn cs a ccd cl outer A₀ base h₀ L m s Q E rest hA sl k many tk0 t1 n c vs ns B Fr0 X N Tp hk hsl hi hln hoff hk0 hm hd hu hret
  w_top off
  revert X; k_fill; intro X
  have hlv := hi.length
  refine wpAny_call ?_
  k_dflt (refine' code_def ?k1 ?k2 ?k3 ?k4 ?k5 ?kA ?kF ?kK ?k6 ?k7 ?k8 ?k9 ?kB ?_ ?c2 ?c3 ?c4 ?c5; (case kA => exact rfl); (case kF => exact rfl); (case kK => assumption); (case k1 => k_asm); (case k2 => k_asm); (case k3 => k_asm); (case k4 => k_asm); (case k5 => k_asm); (case k6 => k_is); (case k7 => k_is); (case k8 => (first | exact room2 hd rfl | exact room1 hd rfl | exact room0 hd | ktr_room)); (case k9 => exact BindsTo.of_eq rfl); (case c5 => decide); (case kB => exact locs rfl); (case c2 => exact rfl); (case c3 => exact rfl); (case c4 => exact rfl); k_whole; refine eps3 ((?_ : All3 _) _ _ _); intros g' L' h' FG' F' N' B' X' T'; (try dsimp only))
  (repeat' (first | (with_reducible first | refine const_tk ?_ | refine and_tk ?_ | refine or_tk ?_ | refine ior_tk ?_ | refine add_tk ?_ | refine sub_tk ?_ | refine inv_tk ?_) | ((with_reducible show wpAny _ _ (storeName _ _ _) _ _ _); k_dflt (refine' storeX_L ?sF ?sN ?_ ?sa ?sb; (case sF => k_asm); (case sN => k_asm); (case sa => rfl); (case sb => rfl); k_whole; refine eps1 ((?_ : All1 _) _); intros h' F' N'; (try k_sweep))) | ((with_reducible show wpAny _ _ (subscriptTail _ _ (Value.ref _) (Value.int _ _)) _ _ _); k_dflt (refine' ksa_sub ?k1 ?k2 ?k3 ?k4 ?k5 ?k6 ?_ ?k7; (case k1 => k_asm); (case k2 => k_mem); (case k3 => with_reducible assumption); (case k4 => (ksa_idx)); (case k5 => (ksa_idx)); (case k6 => (ksa_idx)); (case k7 => with_unfolding_all rfl); k_whole); refine eps1 ((?_ : All1 _) _); intros t9; delta At1; (try dsimp only)) | (k_end; wrow_close) | walk1 | (dsimp only; walk1) | (leave1; (try dsimp only)) | fail "no step"))
  all_goals exact hret _ _ _ _ _ (fmod_lo _ (by omega)) (fmod_hi _ (by omega)) (by k_asm) (by k_asm)
theorem pick_c {w : World} {p : Program} {loose : List Str} {mean : ExcName → Option Value} {mg mb : Str → Option Value}
  {dp un : Nat} {gd : Option (List Code)} {cn : Str} {cs : Scope} {a : Addr} {ccd : Value} {cl : List (Str × Addr)} {outer : List Env} {A₀ : Around} {base h₀ : Heap} {L : Addr} {m : Str → Option Value} {s : Shared} {Q E : Value → Shared → Prop}
  {rest : List (Addr × Obj)} {hA sl : Addr} {k many : Int} {tk0 t1 : Tok} {n c : Nat} {vs : List Value} {ns : List Int}
  (B : Below A₀ base outer h₀) (Fr0 : Fr h₀ L s.heap m) (X : (hd.heap_39 w.params).In h₀) (N : News h₀ L s.heap ((hA, listOf #[.ref sl, .int k tk0] n) :: rest)) (Tp : Top p loose mean mg mb h₀) (hk : cs.kind = .function)
  (hsl : (sl, listOf vs.toArray c) ∈ rest) (hi : IntsAre vs ns) (hln : ns.length ≤ 11) (hoff : ∀ p ∈ rest, p.1 ≠ hA) (hk0 : 0 ≤ k ∧ k ≤ 20) (hm : 1 ≤ many ∧ many ≤ 36)
  (hd : dp + 2 < recursionLimit) (hu : un + 16 < cLine)
  (hret : ∀ (v : Int) (t t' : Tok) (h' : Heap) (tk' : Nat), 0 ≤ v → v < many → Fr h₀ L h' m → News h₀ L h' ((hA, listOf #[.ref sl, .int (k + 1) t'] n) :: rest) → Q (.int v t) { s with heap := h', toks := tk' }) :
  wpAny (model PySem.Challenge.rw_tg0014_01.row.toRowW.1 w) (ktrTop dp un gd cn cs L a ccd cl outer) (call (.ref 176) [.ref hA, .int many t1]) Q E s :=
  pick_c_q ⟨⟨w, p, loose, mean, mg, mb, dp, un, gd, cn, cs, a, ccd, cl, outer, A₀, base, h₀, L, m, s, Q, E, rest, 0, 0, 0, ⟨fun _ => [], [], [], [], []⟩, 0, [], 0⟩, hA, sl, k, many, tk0, t1, n, c, vs, ns⟩ B Fr0 X N Tp hk hsl hi hln hoff hk0 hm hd hu hret

section
set_option maxRecDepth 100000 in
set_option maxHeartbeats 8000000 in
def inner_c_P (w : World) (p : Program) (loose : List Str) (mean : ExcName → Option Value) (mg : Str → Option Value) (mb : Str → Option Value) (dp : Nat) (un : Nat) (gd : Option (List Code)) (cn : Str) (cs : Scope) (a : Addr) (ccd : Value) (cl : List (Str × Addr)) (outer : List Env) (A₀ : Around) (base : Heap) (h₀ : Heap) (L : Addr) (m : Str → Option Value) (s : Shared) (Q : Value → Shared → Prop) (E : Value → Shared → Prop) (rest : List (Addr × Obj)) (g : Addr) (dg : Addr) (es : List DictEntry) (ng : Nat) (F : Int) (R : Int) (uF : Tok) (uR : Tok) (uU : Tok) (d : Int) (t1 : Tok) (fA : Addr) (rA : Addr) (fv : List Value) (rv : List Value) (fn : Nat) (rn : Nat) : Prop := ∀ (B : Below A₀ base outer h₀) (Fr0 : Fr h₀ L s.heap m) (X : (hd.heap_39 w.params).In h₀) (N : News h₀ L s.heap rest) (Tp : Top p loose mean mg mb h₀) (hk : cs.kind = .function)
  (hF : 3 ≤ F ∧ F ≤ 6) (hR : 3 ≤ R ∧ R ≤ 6)
  (hg : (g, instObj 53 dg) ∈ rest) (hdg : (dg, dictOf es ng) ∈ rest) (q0 : getL "files" es = some (some (.int F uF))) (q1 : getL "ranks" es = some (some (.int R uR))) (q2 : getL "full" es = some (some (.int (fullV F R) uU))) (q3 : getL "file_masks" es = some (some (.ref fA))) (m3 : (fA, listOf fv.toArray fn) ∈ rest) (i3 : IntsAre fv (fileMasks F R)) (q4 : getL "rank_masks" es = some (some (.ref rA))) (m4 : (rA, listOf rv.toArray rn) ∈ rest) (i4 : IntsAre rv (rankMasks F R)) (hd8 : 0 ≤ d ∧ d < 8)
  (hd : dp + 2 < recursionLimit) (hu : un + 16 < cLine)
  (hret : ∀ (t : Tok) (h' : Heap) (tk' : Nat), Fr h₀ L h' m → News h₀ L h' rest → Q (.int (innerV F R d) t) { s with heap := h', toks := tk' }),
  wpAny (model PySem.Challenge.rw_tg0014_01.row.toRowW.1 w) (ktrTop dp un gd cn cs L a ccd cl outer) (call (.ref 78) [.ref g, .int d t1]) Q E s
set_option maxRecDepth 100000 in
set_option maxHeartbeats 8000000 in
theorem inner_c_q : ∀ x : Ctx × (Tok) × (Tok) × (Tok) × (Int) × (Tok) × (Addr) × (Addr) × (List Value) × (List Value) × (Nat) × (Nat), inner_c_P x.1.w x.1.p x.1.loose x.1.mean x.1.mg x.1.mb x.1.dp x.1.un x.1.gd x.1.cn x.1.cs x.1.a x.1.ccd x.1.cl x.1.outer x.1.A₀ x.1.base x.1.h₀ x.1.L x.1.m x.1.s x.1.Q x.1.E x.1.news x.1.g x.1.dg x.1.es x.1.ng x.1.F x.1.R x.2.1 x.2.2.1 x.2.2.2.1 x.2.2.2.2.1 x.2.2.2.2.2.1 x.2.2.2.2.2.2.1 x.2.2.2.2.2.2.2.1 x.2.2.2.2.2.2.2.2.1 x.2.2.2.2.2.2.2.2.2.1 x.2.2.2.2.2.2.2.2.2.2.1 x.2.2.2.2.2.2.2.2.2.2.2 := by
  refine eps_c ((?_ : ∀ w p loose mean mg mb dp un gd cn cs a ccd cl outer A₀ base h₀ L m s Q E rest g dg es ng F R uF uR uU d t1 fA rA fv rv fn rn, inner_c_P w p loose mean mg mb dp un gd cn cs a ccd cl outer A₀ base h₀ L m s Q E rest g dg es ng F R uF uR uU d t1 fA rA fv rv fn rn) _ _ _ _ _ _ _ _ _ _ _ _ _ _ _ _ _ _ _ _ _ _ _ _ _ _ _ _ _ _ _ _ _ _ _ _ _ _ _ _ _)
  intros w p loose mean mg mb dp un gd cn cs a ccd cl outer A₀ base h₀ L m s Q E rest g dg es ng F R uF uR uU d t1 fA rA fv rv fn rn B Fr0 X N Tp hk hF hR hg hdg q0 q1 q2 q3 m3 i3 q4 m4 i4 hd8 hd hu hret
  w_top off
  revert X; k_fill; intro X
  have hfl := fileMasks_len (F := F) (R := R) hF.1
  have hrl := rankMasks_len (F := F) (R := R) hR.1
  refine wpAny_call ?_
  k_dflt (refine' code_def ?k1 ?k2 ?k3 ?k4 ?k5 ?kA ?kF ?kK ?k6 ?k7 ?k8 ?k9 ?kB ?_ ?c2 ?c3 ?c4 ?c5; (case kA => exact rfl); (case kF => exact rfl); (case kK => assumption); (case k1 => k_asm); (case k2 => k_asm); (case k3 => k_asm); (case k4 => k_asm); (case k5 => k_asm); (case k6 => k_is); (case k7 => k_is); (case k8 => (first | exact room2 hd rfl | exact room1 hd rfl | exact room0 hd | ktr_room)); (case k9 => exact BindsTo.of_eq rfl); (case c5 => decide); (case kB => exact locs rfl); (case c2 => exact rfl); (case c3 => exact rfl); (case c4 => exact rfl); k_whole; refine eps3 ((?_ : All3 _) _ _ _); intros g' L' h' FG' F' N' B' X' T'; (try dsimp only))
  (repeat' (first | (with_reducible first | refine const_tk ?_ | refine and_tk ?_ | refine or_tk ?_ | refine ior_tk ?_ | refine add_tk ?_ | refine sub_tk ?_ | refine inv_tk ?_) | ((with_reducible show wpAny _ _ (storeName _ _ _) _ _ _); k_dflt (refine' storeX_L ?sF ?sN ?_ ?sa ?sb; (case sF => k_asm); (case sN => k_asm); (case sa => rfl); (case sb => rfl); k_whole; refine eps1 ((?_ : All1 _) _); intros h' F' N'; (try k_sweep))) | ((with_reducible show wpAny _ _ (getAttr (Value.ref _) _ _) _ _ _); k_dflt (refine' get_own ?k1 ?k2 ?k3 ?k4 ?k5 ?k6 ?k7 ?k8 ?k9 ?_; (case k1 => k_asm); (case k2 => k_asm); (case k3 => k_inst); (case k4 => k_is); (case k5 => k_is); (case k6 => k_is); (case k7 => k_is); (case k8 => first | (with_reducible assumption) | exact (getL_put_ne (by decide) _).trans (by with_reducible assumption) | exact getL_put_self _); (case k9 => k_handed); k_whole)) | ((with_reducible show wpAny _ _ (subscriptTail _ _ (Value.ref _) (Value.int _ _)) _ _ _); k_dflt (refine' ksa_sub ?k1 ?k2 ?k3 ?k4 ?k5 ?k6 ?_ ?k7; (case k1 => k_asm); (case k2 => k_mem); (case k3 => with_reducible assumption); (case k4 => (first | decide | exact f01 (by with_reducible assumption) | ksa_idx)); (case k5 => (first | decide | exact f01 (by with_reducible assumption) | ksa_idx)); (case k6 => (first | decide | exact f01 (by with_reducible assumption) | ksa_idx)); (case k7 => with_unfolding_all rfl); k_whole); refine eps1 ((?_ : All1 _) _); intros t9; delta At1; (try dsimp only)) | ((with_reducible show wpAny _ _ (subscriptTail _ _ (Value.ref 35) (Value.int _ _)) _ _ _); k_dflt (refine' stepF_item ?k1 ?k2 ?k3 ?k4 ?_ ?k5; (case k1 => k_asm); (case k2 => k_asm); (case k3 => (first | exact And.left (by with_reducible assumption) | exact And.right (by with_reducible assumption))); (case k4 => (first | exact And.left (by with_reducible assumption) | exact And.right (by with_reducible assumption))); (case k5 => (intro _; with_unfolding_all rfl))); refine eps1 ((?_ : All1 _) _); intros t9; delta At1; (try dsimp only)) | ((with_reducible show wpAny _ _ (subscriptTail _ _ (Value.ref 36) (Value.int _ _)) _ _ _); k_dflt (refine' stepR_item ?k1 ?k2 ?k3 ?k4 ?_ ?k5; (case k1 => k_asm); (case k2 => k_asm); (case k3 => (first | exact And.left (by with_reducible assumption) | exact And.right (by with_reducible assumption))); (case k4 => (first | exact And.left (by with_reducible assumption) | exact And.right (by with_reducible assumption))); (case k5 => (intro _; with_unfolding_all rfl))); refine eps1 ((?_ : All1 _) _); intros t9; delta At1; (try dsimp only)) | (k_end; wrow_close) | walk1 | (dsimp only; walk1) | (leave1; (try dsimp only)) | fail "no step"))
  all_goals refine cb_retI hret ?_ (by k_asm) (by k_asm)
  · exact (inner_pp (by with_reducible assumption) (by with_reducible assumption)).symm
  · exact (inner_pn (by with_reducible assumption) (by with_reducible assumption) (by with_reducible assumption)).symm
  · exact (inner_pz (by with_reducible assumption) (by with_reducible assumption) (by with_reducible assumption)).symm
  · exact (inner_np (by with_reducible assumption) (by with_reducible assumption) (by with_reducible assumption)).symm
  · exact (inner_nn (by with_reducible assumption) (by with_reducible assumption) (by with_reducible assumption) (by with_reducible assumption)).symm
  · exact (inner_nz (by with_reducible assumption) (by with_reducible assumption) (by with_reducible assumption) (by with_reducible assumption)).symm
  · exact (inner_zp (by with_reducible assumption) (by with_reducible assumption) (by with_reducible assumption)).symm
  · exact (inner_zn (by with_reducible assumption) (by with_reducible assumption) (by with_reducible assumption) (by with_reducible assumption)).symm
  · exact (inner_zz (by with_reducible assumption) (by with_reducible assumption) (by with_reducible assumption) (by with_reducible assumption)).symm
theorem inner_c {w : World} {p : Program} {loose : List Str} {mean : ExcName → Option Value} {mg mb : Str → Option Value}
  {dp un : Nat} {gd : Option (List Code)} {cn : Str} {cs : Scope} {a : Addr} {ccd : Value} {cl : List (Str × Addr)} {outer : List Env} {A₀ : Around} {base h₀ : Heap} {L : Addr} {m : Str → Option Value} {s : Shared} {Q E : Value → Shared → Prop}
  {rest : List (Addr × Obj)} {g dg : Addr} {es : List DictEntry} {ng : Nat} {F R : Int} {uF uR uU : Tok} {d : Int} {t1 : Tok} {fA rA : Addr} {fv rv : List Value} {fn rn : Nat}
  (B : Below A₀ base outer h₀) (Fr0 : Fr h₀ L s.heap m) (X : (hd.heap_39 w.params).In h₀) (N : News h₀ L s.heap rest) (Tp : Top p loose mean mg mb h₀) (hk : cs.kind = .function)
  (hF : 3 ≤ F ∧ F ≤ 6) (hR : 3 ≤ R ∧ R ≤ 6)
  (hg : (g, instObj 53 dg) ∈ rest) (hdg : (dg, dictOf es ng) ∈ rest) (q0 : getL "files" es = some (some (.int F uF))) (q1 : getL "ranks" es = some (some (.int R uR))) (q2 : getL "full" es = some (some (.int (fullV F R) uU))) (q3 : getL "file_masks" es = some (some (.ref fA))) (m3 : (fA, listOf fv.toArray fn) ∈ rest) (i3 : IntsAre fv (fileMasks F R)) (q4 : getL "rank_masks" es = some (some (.ref rA))) (m4 : (rA, listOf rv.toArray rn) ∈ rest) (i4 : IntsAre rv (rankMasks F R)) (hd8 : 0 ≤ d ∧ d < 8)
  (hd : dp + 2 < recursionLimit) (hu : un + 16 < cLine)
  (hret : ∀ (t : Tok) (h' : Heap) (tk' : Nat), Fr h₀ L h' m → News h₀ L h' rest → Q (.int (innerV F R d) t) { s with heap := h', toks := tk' }) :
  wpAny (model PySem.Challenge.rw_tg0014_01.row.toRowW.1 w) (ktrTop dp un gd cn cs L a ccd cl outer) (call (.ref 78) [.ref g, .int d t1]) Q E s :=
  inner_c_q ⟨⟨w, p, loose, mean, mg, mb, dp, un, gd, cn, cs, a, ccd, cl, outer, A₀, base, h₀, L, m, s, Q, E, rest, g, F, R, ⟨fun _ => [], [], [], [], []⟩, dg, es, ng⟩, uF, uR, uU, d, t1, fA, rA, fv, rv, fn, rn⟩ B Fr0 X N Tp hk hF hR hg hdg q0 q1 q2 q3 m3 i3 q4 m4 i4 hd8 hd hu hret
end

set_option maxRecDepth 100000 in
set_option maxHeartbeats 8000000 in
def way_c_P (w : World) (p : Program) (loose : List Str) (mean : ExcName → Option Value) (mg : Str → Option Value) (mb : Str → Option Value) (dp : Nat) (un : Nat) (gd : Option (List Code)) (cn : Str) (cs : Scope) (a : Addr) (ccd : Value) (cl : List (Str × Addr)) (outer : List Env) (A₀ : Around) (base : Heap) (h₀ : Heap) (L : Addr) (m : Str → Option Value) (s : Shared) (Q : Value → Shared → Prop) (E : Value → Shared → Prop) (news : List (Addr × Obj)) (g : Addr) (F : Int) (R : Int) (T : Tabs) (en : Int) (t1 : Tok) : Prop := ∀ (B : Below A₀ base outer h₀) (Fr0 : Fr h₀ L s.heap m) (X : (hd.heap_39 w.params).In h₀) (N : News h₀ L s.heap news) (Tp : Top p loose mean mg mb h₀) (hk : cs.kind = .function)
  (hG : GeoOk news g F R T) (hT : TabsLen T (F * R)) (hF : 3 ≤ F ∧ F ≤ 6) (hR : 3 ≤ R ∧ R ≤ 6) (hS : F * R ≤ 36) (hen : 0 ≤ en ∧ en < F * R)
  (hne : ∀ sq, 0 ≤ sq → sq < F * R → 0 < (seenV T (F * R).toNat 0 6 sq 0).length)
  (hW : ∀ sq, 0 ≤ sq → sq < F * R → ∀ M, M ∈ (seenV T (F * R).toNat 0 6 sq 0).map (fun q => distV F q en) → (∀ a ∈ (seenV T (F * R).toNat 0 6 sq 0).map (fun q => distV F q en), M ≤ a) → distV F sq en = if sq = en then 0 else 1 + M)
  (hd : dp + 9 < recursionLimit) (hu : un + 72 < cLine)
  (hret : ∀ (t : Tok) (h' : Heap) (tk' : Nat), Fr h₀ L h' m → News h₀ L h' news → Q (.bool true) { s with heap := h', toks := tk' }),
  wpAny (model PySem.Challenge.rw_tg0014_01.row.toRowW.1 w) (ktrTop dp un gd cn cs L a ccd cl outer) (call (.ref 191) [.ref g, .int en t1]) Q E s
set_option maxRecDepth 100000 in
set_option maxHeartbeats 8000000 in
theorem way_c_q : ∀ x : Ctx × (Int) × (Tok), way_c_P x.1.w x.1.p x.1.loose x.1.mean x.1.mg x.1.mb x.1.dp x.1.un x.1.gd x.1.cn x.1.cs x.1.a x.1.ccd x.1.cl x.1.outer x.1.A₀ x.1.base x.1.h₀ x.1.L x.1.m x.1.s x.1.Q x.1.E x.1.news x.1.g x.1.F x.1.R x.1.T x.2.1 x.2.2 := by
  refine eps_c ((?_ : ∀ w p loose mean mg mb dp un gd cn cs a ccd cl outer A₀ base h₀ L m s Q E news g F R T en t1, way_c_P w p loose mean mg mb dp un gd cn cs a ccd cl outer A₀ base h₀ L m s Q E news g F R T en t1) _ _ _ _ _ _ _ _ _ _ _ _ _ _ _ _ _ _ _ _ _ _ _ _ _ _ _ _ _ _)
  intros w p loose mean mg mb dp un gd cn cs a ccd cl outer A₀ base h₀ L m s Q E news g F R T en t1 B Fr0 X N Tp hk hG hT hF hR hS hen hne hW hd hu hret
  w_top off
  revert X; k_fill; intro X
  refine GeoOk.use hG ((?_ : GeoAll _ _ _ _ _ _) _ _ _ _ _ _ _ _ _ _ _ _ _ _ _ _ _ _ _ _ _ _); intros dg es ng uF uS rA rs nr kA kv kn nA nv nn pA np p0 v0 n0 p1 v1 n1 hx0; obtain ⟨h1, h2, h3, h4, h5, h6, h7, h8, h9, h10, h11, h12, h13, h14, h15, h16, h17, h18, h19⟩ := hx0
  have hN0 : 0 ≤ F * R := Int.le_of_lt (Int.lt_of_le_of_lt hen.1 hen.2)
  refine wpAny_call ?_
  k_dflt (refine' code_defC ?k1 ?k2 ?k3 ?k4 ?k5 ?kA ?kF ?kK ?k6 ?k7 ?k8 ?k9 ?kB ?kD ?_ ?c2 ?c3 ?c4; (case kA => exact rfl); (case kF => exact rfl); (case kK => assumption); (case k1 => k_asm); (case k2 => k_asm); (case k3 => k_asm); (case k4 => k_asm); (case k5 => k_asm); (case k6 => k_is); (case k7 => k_is); (case k8 => (first | exact room2 hd rfl | exact room1 hd rfl | exact room0 hd | ktr_room)); (case k9 => exact BindsTo.of_eq rfl); (case kB => exact rfl); (case kD => decide +kernel); (case c2 => exact rfl); (case c3 => exact rfl); (case c4 => exact rfl); k_whole)
  refine eps5 ((?_ : All5 _) _ _ _ _ _); intros g' L' h' tk' cells' FG' F' N' Y' B' X' T' l1
  have hne1 : ∀ p ∈ news, p.1 ≠ L' + 1 := fun p hp => by have h0 : p.1 < L' := l1 p hp; have h9 : p.1 ≠ L' + 1 := Nat.ne_of_lt (Nat.lt_succ_of_lt h0); exact h9
  have hne2 : ∀ p ∈ news, p.1 ≠ L' + 1 + 1 := fun p hp => by have h0 : p.1 < L' := l1 p hp; have h9 : p.1 ≠ L' + 1 + 1 := Nat.ne_of_lt (Nat.lt_succ_of_lt (Nat.lt_succ_of_lt h0)); exact h9
  have hne3 : ∀ p ∈ news, p.1 ≠ L' + 1 + 1 + 1 := fun p hp => by have h0 : p.1 < L' := l1 p hp; have h9 : p.1 ≠ L' + 1 + 1 + 1 := Nat.ne_of_lt (Nat.lt_succ_of_lt (Nat.lt_succ_of_lt (Nat.lt_succ_of_lt h0))); exact h9
  refine exs3 (CellsAre.three Y') ((?_ : All3 _) _ _ _); intros o' o2' o3' hx0; obtain ⟨hE', d1', d2', d3'⟩ := hx0
  subst hE'
  clear Y'
  (try (replace N' := N'; simp only [List.cons_append, List.nil_append] at N'))
  (try dsimp only)
  (repeat' (first | ((with_reducible show wpAny _ _ (getAttr (Value.ref _) _ _) _ _ _); k_dflt (refine' get_own ?k1 ?k2 ?k3 ?k4 ?k5 ?k6 ?k7 ?k8 ?k9 ?_; (case k1 => k_asm); (case k2 => k_asm); (case k3 => k_inst); (case k4 => k_is); (case k5 => k_is); (case k6 => k_is); (case k7 => k_is); (case k8 => first | (with_reducible assumption) | exact (getL_put_ne (by decide) _).trans (by with_reducible assumption) | exact getL_put_self _); (case k9 => k_handed); k_whole)) | ((with_reducible show LCg.CompSrc ..); refine Stop.out ?_) | ((with_reducible show wpAny _ _ (eval (PySem.Expr.ListComp ..) _) _ _ _); (first | lcg_look | lcf_look); k_dflt (refine LCg.ListComp_U (F₀ := by k_asm) (by with_unfolding_all rfl) (by decide) (by rfl) (by decide) (by rfl) ?_)) | ((with_reducible show wpAny _ _ (call (Value.type _) _) _ _ _); (with_reducible rename Fr _ _ _ _ => F8); (with_reducible rename News _ _ _ _ => N8); first | (with_unfolding_all refine range1_rows F8 N8 ?_; refine eps5 ((?_ : All5 _) _ _ _ _ _); intros _ _ _ _ _ _ _ _ _) | (with_unfolding_all refine range2_rows F8 N8 ?_; refine eps5 ((?_ : All5 _) _ _ _ _ _); intros _ _ _ _ _ _ _ _ _) | (with_unfolding_all refine range3_rows F8 N8 (by decide) ?_; refine eps5 ((?_ : All5 _) _ _ _ _ _); intros _ _ _ _ _ _ _ _ _)) | (k_end; wrow_close) | walk1 | (dsimp only; walk1) | (leave1; (try dsimp only)) | fail "no step"))
  refine Stop.mk ?_
  k_dflt (refine LCg.CompSrc.range (by rfl) (by k_asm) (by k_asm) (by assumption) (small_FR hN0 hS) (rangeSize_nat _ _) (line_FR hS) ?_)
  refine eps1 ((?_ : All1 _) _); intros g9
  delta At1
  refine cu_range (fun i => distV F i en) ?_ ?_
  · refine eps12 ((?_ : All12 _) _ _ _ _ _ _ _ _ _ _ _ _); intros k' t' I' oI' C' oC' D' m' ys' h' tk' E' hlo' hhi' hC' hx' F' N' off' ne'; have hhi9 := range_hi hN0 hhi'; clear hhi'
    (repeat' (first | ((with_reducible show wpAny _ _ (call (Value.ref 169) _) _ _ _); k_dflt (refine' dist_c ?k1 ?k2 ?k3 ?k4 ?k5 ?k6 ?g ?gt ?gf ?gr ?gs ?a1 ?a2 ?d ?u ?_; (case k1 => k_asm); (case k2 => k_asm); (case k3 => k_asm); (case k4 => k_asm); (case k5 => k_asm); (case k6 => first | exact rfl | assumption); (case g => (refine' GeoOk.cons ?gg; (case gg => (refine' GeoOk.cons ?gg; (case gg => (refine' GeoOk.cons ?gg; (case gg => (refine' GeoOk.cons ?gg; (case gg => (refine' GeoOk.cons ?gg; (case gg => (refine' GeoOk.cons ?gg; (case gg => assumption))))))))))))); (case gt => assumption); (case gf => assumption); (case gr => assumption); (case gs => assumption); (case a1 => (first | with_reducible assumption | exact ⟨(by with_reducible assumption), (by first | with_reducible assumption | exact And.right (by with_reducible assumption) | exact in_hi (by with_reducible assumption) (by with_reducible assumption))⟩)); (case a2 => (first | with_reducible assumption | exact ⟨(by with_reducible assumption), (by first | with_reducible assumption | exact And.right (by with_reducible assumption) | exact in_hi (by with_reducible assumption) (by with_reducible assumption))⟩)); (case d => (first | exact room2 hd rfl | exact room1 hd rfl | exact room0 hd | ktr_room)); (case u => (dsimp only [ktrTop, units_deeper]; first | exact hu | exact room2 hu rfl | exact room1 hu rfl | omega)); refine eps3 ((?_ : All3 _) _ _ _); intros t9 h9 tk9 F9 N9; (try dsimp only))) | ((with_reducible show LCg.CompEnd _ _ _ _ _ _ _ _ _ _ _ (fun y n => CuEl _ _ y n) _ _); (refine' cu_end ?c1 ?c2 ?c3 ?c4 ?c5 ?_; (case c1 => k_asm); (case c2 => k_asm); (case c3 => exact fun _ h => h); (case c4 => assumption); (case c5 => first | exact True.intro | assumption | exact Or.inr ⟨_, by k_mem, rfl, _, rfl⟩))) | (k_end; wrow_close) | walk1 | (dsimp only; walk1) | (leave1; (try dsimp only)) | fail "no step"))
    all_goals rfl
  refine eps1 ((?_ : All1 _) _); intros ys hys0
  refine exs1 (range_tab (by omega) hys0) ((?_ : All1 _) _); intros W hx0; obtain ⟨hWl, hWg, hys⟩ := hx0
  clear hys0
  (repeat' (first | ((with_reducible show wpAny _ _ (getAttr (Value.ref _) _ _) _ _ _); k_dflt (refine' get_own ?k1 ?k2 ?k3 ?k4 ?k5 ?k6 ?k7 ?k8 ?k9 ?_; (case k1 => k_asm); (case k2 => k_asm); (case k3 => k_inst); (case k4 => k_is); (case k5 => k_is); (case k6 => k_is); (case k7 => k_is); (case k8 => first | (with_reducible assumption) | exact (getL_put_ne (by decide) _).trans (by with_reducible assumption) | exact getL_put_self _); (case k9 => k_handed); k_whole)) | ((with_reducible show LCg.FinE ..); unfold LCg.FinE; refine eps3 ((?_ : All3 _) _ _ _); intros D' h' tk' F' N' o1'; (try dsimp only)) | ((with_reducible show wpAny _ _ (call (Value.type _) _) _ _ _); (with_reducible rename Fr _ _ _ _ => F8); (with_reducible rename News _ _ _ _ => N8); first | (with_unfolding_all refine range1_rows F8 N8 ?_; refine eps5 ((?_ : All5 _) _ _ _ _ _); intros _ _ _ _ _ _ _ _ _) | (with_unfolding_all refine range2_rows F8 N8 ?_; refine eps5 ((?_ : All5 _) _ _ _ _ _); intros _ _ _ _ _ _ _ _ _) | (with_unfolding_all refine range3_rows F8 N8 (by decide) ?_; refine eps5 ((?_ : All5 _) _ _ _ _ _); intros _ _ _ _ _ _ _ _ _)) | ((with_reducible show wpAny _ _ (exec (PySem.Stmt.For ..) _) _ _ _); (rename Fr _ _ _ _ => lF'); (with_unfolding_all refine' For_invVF lF' ?k1 ?k2 ?_; (case k1 => exact rfl); (case k2 => exact rfl); k_whole)) | ((with_reducible show wpAny _ _ (pyIter (Value.ref _)) _ _ _); refine Stop.out ?_) | ((with_reducible show wpAny _ _ (storeName _ _ _) _ _ _); k_dflt (refine' storeX_C ?F ?N ?c ?U ?d ?_ ?a ?b; (case a => rfl); (case b => rfl); (case F => k_asm); (case N => k_asm); (case c => rfl); (case U => k_updF); (case d => k_asm); k_whole; refine eps2 ((?_ : All2 _) _ _); intros h' o' F' N' d'; (try dsimp only at N'); (try k_sweep))) | (k_end; wrow_close) | walk1 | (dsimp only; walk1) | (leave1; (try dsimp only)) | fail "no step"))
  refine Stop.mk ?_
  k_dflt (refine kst_range (σ := Unit) (fun _ => _) (fun _ => []) (fun _ => True) ["least"] (fun _ _ => True) () (by rfl) (by assumption) (small_FR hN0 hS) (rangeSize_nat _ _) (by k_asm) (by k_asm) trivial (fun _ h => nomatch h) trivial ?_ ?_)
  · refine eps8 ((?_ : All8 _) _ _ _ _ _ _ _ _); intros c pre k t u h tk own hk hlt hoff hf hp F'' N''
    replace N'' := N''; simp only [List.cons_append] at N''
    obtain ⟨hk0, hk1⟩ := turn_up hN0 hk hlt
    clear hk hlt
    have hG2 : GeoOk (news ++ own) g F R T := hG.mono fun _ hp => List.mem_append_left _ hp
    (try dsimp only)
    (repeat' (first | ((with_reducible show wpAny _ _ (call (Value.ref 181) _) _ _ _); k_dflt (refine' seen_c ?k1 ?k2 ?k3 ?k4 ?k5 ?k6 ?g ?gt ?gf ?gr ?gs ?a0 ?a1 ?a2 ?d ?u ?_; (case k1 => k_asm); (case k2 => k_asm); (case k3 => k_asm); (case k4 => k_asm); (case k5 => k_asm); (case k6 => first | exact rfl | assumption); (case g => (refine' GeoOk.cons ?gg; (case gg => (refine' GeoOk.cons ?gg; (case gg => (refine' GeoOk.cons ?gg; (case gg => (refine' GeoOk.cons ?gg; (case gg => assumption))))))))); (case gt => assumption); (case gf => assumption); (case gr => assumption); (case gs => assumption); (case a0 => (first | decide | exact ⟨(by with_reducible assumption), (by first | with_reducible assumption | exact And.right (by with_reducible assumption) | exact in_hi (by with_reducible assumption) (by with_reducible assumption))⟩)); (case a1 => (first | decide | exact ⟨(by with_reducible assumption), (by first | with_reducible assumption | exact And.right (by with_reducible assumption) | exact in_hi (by with_reducible assumption) (by with_reducible assumption))⟩)); (case a2 => (first | decide | exact ⟨(by with_reducible assumption), (by first | with_reducible assumption | exact And.right (by with_reducible assumption) | exact in_hi (by with_reducible assumption) (by with_reducible assumption))⟩)); (case d => (first | exact room2 hd rfl | exact room1 hd rfl | exact room0 hd | ktr_room)); (case u => (dsimp only [ktrTop, units_deeper]; first | exact hu | exact room2 hu rfl | exact room1 hu rfl | omega)); refine eps4 ((?_ : All4 _) _ _ _ _); intros D9 ys9 h9 tk9 F9 N9 o9 i9; clear o9; (try dsimp only))) | (with_reducible first | refine const_tk ?_ | refine and_tk ?_ | refine or_tk ?_ | refine ior_tk ?_ | refine add_tk ?_ | refine sub_tk ?_ | refine inv_tk ?_) | ((with_reducible show LCg.CompSrc ..); refine Stop.out ?_) | ((with_reducible show wpAny _ _ (eval (PySem.Expr.ListComp ..) _) _ _ _); (first | lcg_look | lcf_look); k_dflt (refine LCg.ListComp_U (F₀ := by k_asm) (by with_unfolding_all rfl) (by decide) (by rfl) (by decide) (by rfl) ?_)) | (k_end; wrow_close) | walk1 | (dsimp only; walk1) | (leave1; (try dsimp only)) | fail "no step"))
    refine Stop.mk ?_
    with_reducible rename IntsAre _ (seenV _ _ _ _ _ _) => hi9
    have hl9 := hi9.length
    have hn9 := hne k hk0 hk1
    k_dflt (refine LCg.CompSrc.ledger (by rfl) (by k_asm) (by k_asm) (by k_mem) (line_len hl9 (seenV_len ..) hS) ?_)
    refine eps1 ((?_ : All1 _) _); intros g8
    delta At1
    refine cu_list (fun q => distV F q en) hi9 ?_ ?_
    · intro k' t' I' oI' C' oC' D' m' ys' h' tk' E' hk' hC' hx' F3 N3 off' ne'
      obtain ⟨hk0, hk1⟩ := mem_seenF hN0 hk'
      (repeat' (first | ((with_reducible show wpAny _ _ (subscriptTail _ _ (Value.ref _) (Value.int _ _)) _ _ _); k_dflt (refine' ksa_sub ?k1 ?k2 ?k3 ?k4 ?k5 ?k6 ?_ ?k7; (case k1 => k_asm); (case k2 => k_mem); (case k3 => with_reducible assumption); (case k4 => (first | with_reducible assumption | exact lt_len (by with_reducible assumption) (by first | with_reducible assumption | exact And.right (by with_reducible assumption) | exact in_hi (by with_reducible assumption) (by with_reducible assumption)) | exact lt63 (by with_reducible assumption) (by first | with_reducible assumption | exact And.right (by with_reducible assumption) | exact in_hi (by with_reducible assumption) (by with_reducible assumption)))); (case k5 => (first | with_reducible assumption | exact lt_len (by with_reducible assumption) (by first | with_reducible assumption | exact And.right (by with_reducible assumption) | exact in_hi (by with_reducible assumption) (by with_reducible assumption)) | exact lt63 (by with_reducible assumption) (by first | with_reducible assumption | exact And.right (by with_reducible assumption) | exact in_hi (by with_reducible assumption) (by with_reducible assumption)))); (case k6 => (first | with_reducible assumption | exact lt_len (by with_reducible assumption) (by first | with_reducible assumption | exact And.right (by with_reducible assumption) | exact in_hi (by with_reducible assumption) (by with_reducible assumption)) | exact lt63 (by with_reducible assumption) (by first | with_reducible assumption | exact And.right (by with_reducible assumption) | exact in_hi (by with_reducible assumption) (by with_reducible assumption)))); (case k7 => with_unfolding_all rfl); k_whole); refine eps1 ((?_ : All1 _) _); intros t9; delta At1; (try dsimp only)) | ((with_reducible show LCg.CompEnd _ _ _ _ _ _ _ _ _ _ _ (fun y n => CuEl _ _ y n) _ _); (refine' cu_end ?c1 ?c2 ?c3 ?c4 ?c5 ?_; (case c1 => k_asm); (case c2 => k_asm); (case c3 => exact fun _ h => h); (case c4 => assumption); (case c5 => first | exact True.intro | assumption | exact Or.inr ⟨_, by k_mem, rfl, _, rfl⟩))) | (k_end; wrow_close) | walk1 | (dsimp only; walk1) | (leave1; (try dsimp only)) | fail "no step"))
      exact hWg _ (by omega) (by omega)
    · refine eps1 ((?_ : All1 _) _); intros zs hzs
      have hg := hWg k hk0 hk1
      (repeat' (first | (with_reducible first | refine const_tk ?_ | refine and_tk ?_ | refine or_tk ?_ | refine ior_tk ?_ | refine add_tk ?_ | refine sub_tk ?_ | refine inv_tk ?_) | ((with_reducible show wpAny _ _ (storeName _ _ _) _ _ _); k_dflt (refine' storeX_L ?sF ?sN ?_ ?sa ?sb; (case sF => k_asm); (case sN => k_asm); (case sa => rfl); (case sb => rfl); k_whole; refine eps1 ((?_ : All1 _) _); intros h' F' N'; (try k_sweep))) | ((with_reducible show wpAny _ _ (subscriptTail _ _ (Value.ref _) (Value.int _ _)) _ _ _); k_dflt (refine' ksa_sub ?k1 ?k2 ?k3 ?k4 ?k5 ?k6 ?_ ?k7; (case k1 => k_asm); (case k2 => k_mem); (case k3 => with_reducible assumption); (case k4 => (first | with_reducible assumption | exact lt_len (by with_reducible assumption) (by first | with_reducible assumption | exact And.right (by with_reducible assumption) | exact in_hi (by with_reducible assumption) (by with_reducible assumption)) | exact lt63 (by with_reducible assumption) (by first | with_reducible assumption | exact And.right (by with_reducible assumption) | exact in_hi (by with_reducible assumption) (by with_reducible assumption)))); (case k5 => (first | with_reducible assumption | exact lt_len (by with_reducible assumption) (by first | with_reducible assumption | exact And.right (by with_reducible assumption) | exact in_hi (by with_reducible assumption) (by with_reducible assumption)) | exact lt63 (by with_reducible assumption) (by first | with_reducible assumption | exact And.right (by with_reducible assumption) | exact in_hi (by with_reducible assumption) (by with_reducible assumption)))); (case k6 => (first | with_reducible assumption | exact lt_len (by with_reducible assumption) (by first | with_reducible assumption | exact And.right (by with_reducible assumption) | exact in_hi (by with_reducible assumption) (by with_reducible assumption)) | exact lt63 (by with_reducible assumption) (by first | with_reducible assumption | exact And.right (by with_reducible assumption) | exact in_hi (by with_reducible assumption) (by with_reducible assumption)))); (case k7 => with_unfolding_all rfl); k_whole); refine eps1 ((?_ : All1 _) _); intros t9; delta At1; (try dsimp only)) | ((with_reducible show LCg.FinE ..); unfold LCg.FinE; refine eps3 ((?_ : All3 _) _ _ _); intros D' h' tk' F' N' o1'; (try dsimp only)) | ((with_reducible show InvEndN ..); refine Stop.out ?_) | ((with_reducible show wpAny _ _ (call (Value.builtin _) [Value.ref _]) _ _ _); (with_unfolding_all refine' kso_min ?k1 ?k2 ?k3 ?k4 ?k5 ?k6 ?_; (case k1 => k_asm); (case k2 => k_asm); (case k3 => kso_list); (case k4 => l_ints); (case k5 => kso_len); (case k6 => with_unfolding_all rfl); k_whole); refine eps4 ((?_ : All4 _) _ _ _ _); intros h' M' t' k' F' N' a' b'; (try kso_open a'); (try kso_open b'); (try k_sweep)) | (k_end; wrow_close) | walk1 | (dsimp only; walk1) | (leave1; (try dsimp only)) | fail "no step"))
      · exfalso
        with_reducible rename (_ ∈ List.map _ _) => hm
        with_reducible rename (∀ a, a ∈ List.map _ _ → _ ≤ a) => hmin
        have := hW k hk0 hk1 _ hm hmin
        replace this := this; rw [if_pos (by assumption), ← hg] at this
        contradiction
      · refine kst_end () (by k_asm) (by k_asm) (fun p hp => List.Mem.tail _ (List.Mem.tail _ (List.mem_append_left own hp))) (fun p hp => ?_) rfl trivial (fun _ h => nomatch h) ?_ trivial
        · repeat (first | exact List.mem_append_right _ hp | apply List.Mem.tail)
        · intro z hz _ hs
          simp only [if_neg (not_stored hs (y := "least") (by decide)), if_neg hz]
          exact same1 hs
      · exfalso
        with_reducible rename (_ ∈ List.map _ _) => hm
        with_reducible rename (∀ a, a ∈ List.map _ _ → _ ≤ a) => hmin
        have := hW k hk0 hk1 _ hm hmin
        replace this := this; rw [if_neg (by assumption), ← hg] at this
        contradiction
      · refine kst_end () (by k_asm) (by k_asm) (fun p hp => List.Mem.tail _ (List.Mem.tail _ (List.mem_append_left own hp))) (fun p hp => ?_) rfl trivial (fun _ h => nomatch h) ?_ trivial
        · repeat (first | exact List.mem_append_right _ hp | apply List.Mem.tail)
        · intro z hz _ hs
          simp only [if_neg (not_stored hs (y := "least") (by decide)), if_neg hz]
          exact same1 hs
  · refine eps4 ((?_ : All4 _) _ _ _ _); intros c u h tk hf hp F'' N''
    (try dsimp only)
    (repeat' (first | (k_end; wrow_close) | walk1 | (dsimp only; walk1) | (leave1; (try dsimp only)) | fail "no step"))
    with_reducible rename News h₀ L _ _ => kN9
    refine hret 0 _ _ (by k_asm) (cb_drop kN9 ?_)
    intro p hp
    simp only [List.mem_cons]
    simp only [hp, or_true]
theorem way_c {w : World} {p : Program} {loose : List Str} {mean : ExcName → Option Value} {mg mb : Str → Option Value}
  {dp un : Nat} {gd : Option (List Code)} {cn : Str} {cs : Scope} {a : Addr} {ccd : Value} {cl : List (Str × Addr)} {outer : List Env} {A₀ : Around} {base h₀ : Heap} {L : Addr} {m : Str → Option Value} {s : Shared} {Q E : Value → Shared → Prop}
  {news : List (Addr × Obj)} {g : Addr} {F R : Int} {T : Tabs} {en : Int} {t1 : Tok}
  (B : Below A₀ base outer h₀) (Fr0 : Fr h₀ L s.heap m) (X : (hd.heap_39 w.params).In h₀) (N : News h₀ L s.heap news) (Tp : Top p loose mean mg mb h₀) (hk : cs.kind = .function)
  (hG : GeoOk news g F R T) (hT : TabsLen T (F * R)) (hF : 3 ≤ F ∧ F ≤ 6) (hR : 3 ≤ R ∧ R ≤ 6) (hS : F * R ≤ 36) (hen : 0 ≤ en ∧ en < F * R)
  (hne : ∀ sq, 0 ≤ sq → sq < F * R → 0 < (seenV T (F * R).toNat 0 6 sq 0).length)
  (hW : ∀ sq, 0 ≤ sq → sq < F * R → ∀ M, M ∈ (seenV T (F * R).toNat 0 6 sq 0).map (fun q => distV F q en) → (∀ a ∈ (seenV T (F * R).toNat 0 6 sq 0).map (fun q => distV F q en), M ≤ a) → distV F sq en = if sq = en then 0 else 1 + M)
  (hd : dp + 9 < recursionLimit) (hu : un + 72 < cLine)
  (hret : ∀ (t : Tok) (h' : Heap) (tk' : Nat), Fr h₀ L h' m → News h₀ L h' news → Q (.bool true) { s with heap := h', toks := tk' }) :
  wpAny (model PySem.Challenge.rw_tg0014_01.row.toRowW.1 w) (ktrTop dp un gd cn cs L a ccd cl outer) (call (.ref 191) [.ref g, .int en t1]) Q E s :=
  way_c_q ⟨⟨w, p, loose, mean, mg, mb, dp, un, gd, cn, cs, a, ccd, cl, outer, A₀, base, h₀, L, m, s, Q, E, news, g, F, R, T, 0, [], 0⟩, en, t1⟩ B Fr0 X N Tp hk hG hT hF hR hS hen hne hW hd hu hret

section
set_option maxRecDepth 100000 in
set_option maxHeartbeats 8000000 in
def pawns_c_P (w : World) (p : Program) (loose : List Str) (mean : ExcName → Option Value) (mg : Str → Option Value) (mb : Str → Option Value) (dp : Nat) (un : Nat) (gd : Option (List Code)) (cn : Str) (cs : Scope) (a : Addr) (ccd : Value) (cl : List (Str × Addr)) (outer : List Env) (A₀ : Around) (base : Heap) (h₀ : Heap) (L : Addr) (m : Str → Option Value) (s : Shared) (Q : Value → Shared → Prop) (E : Value → Shared → Prop) (rest : List (Addr × Obj)) (g : Addr) (dg : Addr) (es : List DictEntry) (ng : Nat) (F : Int) (R : Int) (uS : Tok) (p0 : Addr) (p1 : Addr) (pA : Addr) (kA : Addr) (rA : Addr) (r4 : Addr) (r5 : Addr) (r6 : Addr) (r7 : Addr) (c0 : Nat) (c1 : Nat) (np : Nat) (ck : Nat) (nr : Nat) (n4 : Nat) (n5 : Nat) (n6 : Nat) (n7 : Nat) (kv : List Value) (rs : List Value) (v4 : List Value) (v5 : List Value) (v6 : List Value) (v7 : List Value) (K : List Int) (a4 : List Int) (a5 : List Int) (a6 : List Int) (a7 : List Int) : Prop := ∀ (B : Below A₀ base outer h₀) (Fr0 : Fr h₀ L s.heap m) (X : (hd.heap_39 w.params).In h₀) (N : News h₀ L s.heap ((p0, listOf #[] c0) :: (p1, listOf #[] c1) :: rest)) (Tp : Top p loose mean mg mb h₀) (hk : cs.kind = .function)
  (hF : 3 ≤ F ∧ F ≤ 6) (hR : 3 ≤ R ∧ R ≤ 6) (hS : F * R ≤ 36) (hS0 : 9 ≤ F * R)
  (hg : (g, instObj 53 dg) ∈ rest) (hdg : (dg, dictOf es ng) ∈ rest) (q1 : getL "size" es = some (some (.int (F * R) uS))) (q2 : getL "pawn" es = some (some (.ref pA))) (m2 : (pA, listOf #[.ref p0, .ref p1] np) ∈ rest) (q3 : getL "king" es = some (some (.ref kA))) (m3 : (kA, listOf kv.toArray ck) ∈ rest) (i3 : IntsAre kv K) (s3 : (K.length : Int) = F * R)
  (q4 : getL "rays" es = some (some (.ref rA))) (m4 : (rA, listOf rs.toArray nr) ∈ rest) (e4 : rs[(4 : Int).toNat]? = some (.ref r4)) (e5 : rs[(5 : Int).toNat]? = some (.ref r5)) (e6 : rs[(6 : Int).toNat]? = some (.ref r6)) (e7 : rs[(7 : Int).toNat]? = some (.ref r7))
  (x4 : (r4, listOf v4.toArray n4) ∈ rest) (x5 : (r5, listOf v5.toArray n5) ∈ rest) (x6 : (r6, listOf v6.toArray n6) ∈ rest) (x7 : (r7, listOf v7.toArray n7) ∈ rest) (i4 : IntsAre v4 a4) (i5 : IntsAre v5 a5) (i6 : IntsAre v6 a6) (i7 : IntsAre v7 a7)
  (s4 : (a4.length : Int) = F * R) (s5 : (a5.length : Int) = F * R) (s6 : (a6.length : Int) = F * R) (s7 : (a7.length : Int) = F * R)
  (f1 : ∀ p ∈ rest, p.1 ≠ p0) (f2 : ∀ p ∈ rest, p.1 ≠ p1) (f3 : @Ne Nat p0 p1)
  (hd : dp + 2 < recursionLimit) (hu : un + 16 < cLine)
  (hret : ∀ (va vb : List Value) (ca cb : Nat) (h' : Heap) (tk' : Nat), Fr h₀ L h' m → News h₀ L h' ((p0, listOf va.toArray ca) :: (p1, listOf vb.toArray cb) :: rest) → IntsAre va (pawnTab (F * R) K a4 a7) → IntsAre vb (pawnTab (F * R) K a5 a6) → Q .none { s with heap := h', toks := tk' }),
  wpAny (model PySem.Challenge.rw_tg0014_01.row.toRowW.1 w) (ktrTop dp un gd cn cs L a ccd cl outer) (call (.ref 92) [.ref g]) Q E s
set_option maxRecDepth 100000 in
set_option maxHeartbeats 8000000 in
theorem pawns_c_q : ∀ x : Ctx × (Tok) × (Addr) × (Addr) × (Addr) × (Addr) × (Addr) × (Addr) × (Addr) × (Addr) × (Addr) × (Nat) × (Nat) × (Nat) × (Nat) × (Nat) × (Nat) × (Nat) × (Nat) × (Nat) × (List Value) × (List Value) × (List Value) × (List Value) × (List Value) × (List Value) × (List Int) × (List Int) × (List Int) × (List Int) × (List Int), pawns_c_P x.1.w x.1.p x.1.loose x.1.mean x.1.mg x.1.mb x.1.dp x.1.un x.1.gd x.1.cn x.1.cs x.1.a x.1.ccd x.1.cl x.1.outer x.1.A₀ x.1.base x.1.h₀ x.1.L x.1.m x.1.s x.1.Q x.1.E x.1.news x.1.g x.1.dg x.1.es x.1.ng x.1.F x.1.R x.2.1 x.2.2.1 x.2.2.2.1 x.2.2.2.2.1 x.2.2.2.2.2.1 x.2.2.2.2.2.2.1 x.2.2.2.2.2.2.2.1 x.2.2.2.2.2.2.2.2.1 x.2.2.2.2.2.2.2.2.2.1 x.2.2.2.2.2.2.2.2.2.2.1 x.2.2.2.2.2.2.2.2.2.2.2.1 x.2.2.2.2.2.2.2.2.2.2.2.2.1 x.2.2.2.2.2.2.2.2.2.2.2.2.2.1 x.2.2.2.2.2.2.2.2.2.2.2.2.2.2.1 x.2.2.2.2.2.2.2.2.2.2.2.2.2.2.2.1 x.2.2.2.2.2.2.2.2.2.2.2.2.2.2.2.2.1 x.2.2.2.2.2.2.2.2.2.2.2.2.2.2.2.2.2.1 x.2.2.2.2.2.2.2.2.2.2.2.2.2.2.2.2.2.2.1 x.2.2.2.2.2.2.2.2.2.2.2.2.2.2.2.2.2.2.2.1 x.2.2.2.2.2.2.2.2.2.2.2.2.2.2.2.2.2.2.2.2.1 x.2.2.2.2.2.2.2.2.2.2.2.2.2.2.2.2.2.2.2.2.2.1 x.2.2.2.2.2.2.2.2.2.2.2.2.2.2.2.2.2.2.2.2.2.2.1 x.2.2.2.2.2.2.2.2.2.2.2.2.2.2.2.2.2.2.2.2.2.2.2.1 x.2.2.2.2.2.2.2.2.2.2.2.2.2.2.2.2.2.2.2.2.2.2.2.2.1 x.2.2.2.2.2.2.2.2.2.2.2.2.2.2.2.2.2.2.2.2.2.2.2.2.2.1 x.2.2.2.2.2.2.2.2.2.2.2.2.2.2.2.2.2.2.2.2.2.2.2.2.2.2.1 x.2.2.2.2.2.2.2.2.2.2.2.2.2.2.2.2.2.2.2.2.2.2.2.2.2.2.2.1 x.2.2.2.2.2.2.2.2.2.2.2.2.2.2.2.2.2.2.2.2.2.2.2.2.2.2.2.2.1 x.2.2.2.2.2.2.2.2.2.2.2.2.2.2.2.2.2.2.2.2.2.2.2.2.2.2.2.2.2.1 x.2.2.2.2.2.2.2.2.2.2.2.2.2.2.2.2.2.2.2.2.2.2.2.2.2.2.2.2.2.2 := by
  refine eps_c ((?_ : ∀ w p loose mean mg mb dp un gd cn cs a ccd cl outer A₀ base h₀ L m s Q E rest g dg es ng F R uS p0 p1 pA kA rA r4 r5 r6 r7 c0 c1 np ck nr n4 n5 n6 n7 kv rs v4 v5 v6 v7 K a4 a5 a6 a7, pawns_c_P w p loose mean mg mb dp un gd cn cs a ccd cl outer A₀ base h₀ L m s Q E rest g dg es ng F R uS p0 p1 pA kA rA r4 r5 r6 r7 c0 c1 np ck nr n4 n5 n6 n7 kv rs v4 v5 v6 v7 K a4 a5 a6 a7) _ _ _ _ _ _ _ _ _ _ _ _ _ _ _ _ _ _ _ _ _ _ _ _ _ _ _ _ _ _ _ _ _ _ _ _ _ _ _ _ _ _ _ _ _ _ _ _ _ _ _ _ _ _ _ _ _ _ _ _)
  intros w p loose mean mg mb dp un gd cn cs a ccd cl outer A₀ base h₀ L m s Q E rest g dg es ng F R uS p0 p1 pA kA rA r4 r5 r6 r7 c0 c1 np ck nr n4 n5 n6 n7 kv rs v4 v5 v6 v7 K a4 a5 a6 a7 B Fr0 X N Tp hk hF hR hS hS0 hg hdg q1 q2 m2 q3 m3 i3 s3 q4 m4 e4 e5 e6 e7 x4 x5 x6 x7 i4 i5 i6 i7 s4 s5 s6 s7 f1 f2 f3 hd hu hret
  w_top off
  revert X; k_fill; intro X
  refine wpAny_call ?_
  k_dflt (refine' code_def ?k1 ?k2 ?k3 ?k4 ?k5 ?kA ?kF ?kK ?k6 ?k7 ?k8 ?k9 ?kB ?_ ?c2 ?c3 ?c4 ?c5; (case kA => exact rfl); (case kF => exact rfl); (case kK => assumption); (case k1 => k_asm); (case k2 => k_asm); (case k3 => k_asm); (case k4 => k_asm); (case k5 => k_asm); (case k6 => k_is); (case k7 => k_is); (case k8 => (first | exact room2 hd rfl | exact room1 hd rfl | exact room0 hd | ktr_room)); (case k9 => exact BindsTo.of_eq rfl); (case c5 => decide); (case kB => exact locs rfl); (case c2 => exact rfl); (case c3 => exact rfl); (case c4 => exact rfl); k_whole; refine eps3 ((?_ : All3 _) _ _ _); intros g' L' h' FG' F' N' B' X' T'; (try dsimp only))
  (repeat' (first | ((with_reducible show wpAny _ _ (getAttr (Value.ref _) _ _) _ _ _); k_dflt (refine' get_own ?k1 ?k2 ?k3 ?k4 ?k5 ?k6 ?k7 ?k8 ?k9 ?_; (case k1 => k_asm); (case k2 => k_asm); (case k3 => k_inst); (case k4 => k_is); (case k5 => k_is); (case k6 => k_is); (case k7 => k_is); (case k8 => first | (with_reducible assumption) | exact (getL_put_ne (by decide) _).trans (by with_reducible assumption) | exact getL_put_self _); (case k9 => k_handed); k_whole)) | ((with_reducible show wpAny _ _ (call (Value.type _) _) _ _ _); (with_reducible rename Fr _ _ _ _ => F8); (with_reducible rename News _ _ _ _ => N8); first | (with_unfolding_all refine range1_rows F8 N8 ?_; refine eps5 ((?_ : All5 _) _ _ _ _ _); intros _ _ _ _ _ _ _ _ _) | (with_unfolding_all refine range2_rows F8 N8 ?_; refine eps5 ((?_ : All5 _) _ _ _ _ _); intros _ _ _ _ _ _ _ _ _) | (with_unfolding_all refine range3_rows F8 N8 (by decide) ?_; refine eps5 ((?_ : All5 _) _ _ _ _ _); intros _ _ _ _ _ _ _ _ _)) | ((with_reducible show wpAny _ _ (exec (PySem.Stmt.For ..) _) _ _ _); (rename Fr _ _ _ _ => lF'); (with_unfolding_all refine' For_invVF lF' ?k1 ?k2 ?_; (case k1 => exact rfl); (case k2 => exact rfl); k_whole)) | ((with_reducible show wpAny _ _ (pyIter (Value.ref _)) _ _ _); refine Stop.out ?_) | (k_end; wrow_close) | walk1 | (dsimp only; walk1) | (leave1; (try dsimp only)) | fail "no step"))
  refine Stop.mk ?_
  k_dflt (refine kst_range (σ := List Value × Nat × List Value × Nat) (fun d => (p0, listOf d.1.toArray d.2.1) :: (p1, listOf d.2.2.1.toArray d.2.2.2) :: rest) (fun _ => []) (fun _ => True) [] (fun pre d => IntsAre d.1 (pre.map fun q => Builtin.bitAnd (K.getD q.toNat 0) (Builtin.bitOr (a4.getD q.toNat 0) (a7.getD q.toNat 0))) ∧ IntsAre d.2.2.1 (pre.map fun q => Builtin.bitAnd (K.getD q.toNat 0) (Builtin.bitOr (a5.getD q.toNat 0) (a6.getD q.toNat 0)))) ([], c0, [], c1) (by rfl) (by assumption) (small_FR (Int.le_trans (by decide) hS0) hS) (rangeSize_nat _ _) (by k_asm) (by k_asm) trivial (fun _ h => nomatch h) ⟨.nil, .nil⟩ ?_ ?_)
  · refine cur4 ?_; refine eps11 ((?_ : All11 _) _ _ _ _ _ _ _ _ _ _ _); intros va ca vb cb pre k t u h tk own hk hlt hoff hf hx0 F'' N''; obtain ⟨hp1, hp2⟩ := hx0
    replace N'' := N''; simp only [List.cons_append] at N''
    have hg' := List.mem_append_left own hg
    have hdg' := List.mem_append_left own hdg
    have m2' := List.mem_append_left own m2
    have m3' := List.mem_append_left own m3
    have m4' := List.mem_append_left own m4
    have x4' := List.mem_append_left own x4
    have x5' := List.mem_append_left own x5
    have x6' := List.mem_append_left own x6
    have x7' := List.mem_append_left own x7
    have f1' : ∀ p ∈ rest ++ own, p.1 ≠ p0 := fun p hp => (List.mem_append.mp hp).elim (f1 p) fun h => hoff p h p0 (List.Mem.head _)
    have f2' : ∀ p ∈ rest ++ own, p.1 ≠ p1 := fun p hp => (List.mem_append.mp hp).elim (f2 p) fun h => hoff p h p1 (List.Mem.tail _ (List.Mem.head _))
    have hl1 := hp1.length
    have hl2 := hp2.length
    replace hl1 := hl1; rw [List.length_map] at hl1; replace hl2 := hl2; rw [List.length_map] at hl2
    dsimp only at hp1 hp2 hl1 hl2 F'' N''
    obtain ⟨hk0, hk1⟩ := turn_up (Int.le_trans (by decide) hS0) hk hlt
    have hlm := turn_len hS hlt
    clear hk hlt
    replace hlm := hlm; rw [← hl1] at hlm
    have hlm2 := hlm
    replace hlm2 := hlm2; rw [hl1, ← hl2] at hlm2
    clear hl1 hl2
    (try dsimp only)
    (repeat' (first | (with_reducible first | refine const_tk ?_ | refine and_tk ?_ | refine or_tk ?_ | refine ior_tk ?_ | refine add_tk ?_ | refine sub_tk ?_ | refine inv_tk ?_) | ((with_reducible show wpAny _ _ (getAttr (Value.ref _) _ _) _ _ _); k_dflt (refine' get_own ?k1 ?k2 ?k3 ?k4 ?k5 ?k6 ?k7 ?k8 ?k9 ?_; (case k1 => k_asm); (case k2 => k_asm); (case k3 => k_inst); (case k4 => k_is); (case k5 => k_is); (case k6 => k_is); (case k7 => k_is); (case k8 => first | (with_reducible assumption) | exact (getL_put_ne (by decide) _).trans (by with_reducible assumption) | exact getL_put_self _); (case k9 => k_handed); k_whole)) | ((with_reducible show wpAny _ _ (subscriptTail _ _ (Value.ref _) (Value.int _ _)) _ _ _); k_dflt (refine' ksa_sub ?k1 ?k2 ?k3 ?k4 ?k5 ?k6 ?_ ?k7; (case k1 => k_asm); (case k2 => k_mem); (case k3 => with_reducible assumption); (case k4 => (first | with_reducible assumption | exact lt_len (by with_reducible assumption) (by first | with_reducible assumption | exact And.right (by with_reducible assumption) | exact in_hi (by with_reducible assumption) (by with_reducible assumption)) | exact lt63 (by with_reducible assumption) (by first | with_reducible assumption | exact And.right (by with_reducible assumption) | exact in_hi (by with_reducible assumption) (by with_reducible assumption)))); (case k5 => (first | with_reducible assumption | exact lt_len (by with_reducible assumption) (by first | with_reducible assumption | exact And.right (by with_reducible assumption) | exact in_hi (by with_reducible assumption) (by with_reducible assumption)) | exact lt63 (by with_reducible assumption) (by first | with_reducible assumption | exact And.right (by with_reducible assumption) | exact in_hi (by with_reducible assumption) (by with_reducible assumption)))); (case k6 => (first | with_reducible assumption | exact lt_len (by with_reducible assumption) (by first | with_reducible assumption | exact And.right (by with_reducible assumption) | exact in_hi (by with_reducible assumption) (by with_reducible assumption)) | exact lt63 (by with_reducible assumption) (by first | with_reducible assumption | exact And.right (by with_reducible assumption) | exact in_hi (by with_reducible assumption) (by with_reducible assumption)))); (case k7 => with_unfolding_all rfl); k_whole); refine eps1 ((?_ : All1 _) _); intros t9; delta At1; (try dsimp only)) | ((with_reducible show wpAny _ _ (subscriptTail _ _ (Value.ref _) (Value.int _ _)) _ _ _); (with_unfolding_all refine' item_ref ?k1 ?k2 ?k3 ?k4 ?_ ?k6; (case k1 => is_list); (case k2 => with_reducible assumption); (case k3 => (decide)); (case k4 => (decide)); (case k6 => with_unfolding_all rfl); k_whole)) | ((with_reducible show InvEndN ..); refine Stop.out ?_) | ((with_reducible show wpAny _ _ (call (Value.builtin _) [Value.ref _, _]) _ _ _); k_dflt (refine' append_K ?k1 ?k2 ?k3 ?_ ?z; (case k1 => k_asm); (case k2 => k_asm); (case k3 => k_upd); (case z => (rw [PySem.sizeLine_eq, List.size_toArray]; omega))); refine eps1 ((?_ : All1 _) _); intros h9 F9 N9; (try dsimp only)) | (k_end; wrow_close) | walk1 | (dsimp only; walk1) | (leave1; (try dsimp only)) | fail "no step"))
    with_reducible rename News _ _ _ _ => N9
    replace N9 := N9; simp only [List.push_toArray] at N9
    refine kst_end (va ++ [_], ca + 1, vb ++ [_], cb + 1) (by k_asm) (by k_asm) (fun p hp => List.mem_append_left own hp) (fun p hp => List.mem_append_right _ hp) rfl trivial (fun _ h => nomatch h) ?_ ⟨?_, ?_⟩
    · intro z hz hps hs
      simp [kstB, hz]
    · rw [List.map_append]
      exact IntsAre.append hp1 (.cons _ _ .nil)
    · rw [List.map_append]
      exact IntsAre.append hp2 (.cons _ _ .nil)
  · refine cur4 ?_; refine eps7 ((?_ : All7 _) _ _ _ _ _ _ _); intros va ca vb cb u h tk hf hx0 F'' N''; obtain ⟨hp1, hp2⟩ := hx0
    dsimp only at hp1 hp2 F'' N''
    (try dsimp only)
    (repeat' (first | (k_end; wrow_close) | walk1 | (dsimp only; walk1) | (leave1; (try dsimp only)) | fail "no step"))
    exact hret _ _ _ _ _ _ (by k_asm) (by k_asm) hp1 hp2
theorem pawns_c {w : World} {p : Program} {loose : List Str} {mean : ExcName → Option Value} {mg mb : Str → Option Value}
  {dp un : Nat} {gd : Option (List Code)} {cn : Str} {cs : Scope} {a : Addr} {ccd : Value} {cl : List (Str × Addr)} {outer : List Env} {A₀ : Around} {base h₀ : Heap} {L : Addr} {m : Str → Option Value} {s : Shared} {Q E : Value → Shared → Prop}
  {rest : List (Addr × Obj)} {g dg : Addr} {es : List DictEntry} {ng : Nat} {F R : Int} {uS : Tok} {p0 p1 pA kA rA r4 r5 r6 r7 : Addr} {c0 c1 np ck nr n4 n5 n6 n7 : Nat} {kv rs v4 v5 v6 v7 : List Value} {K a4 a5 a6 a7 : List Int}
  (B : Below A₀ base outer h₀) (Fr0 : Fr h₀ L s.heap m) (X : (hd.heap_39 w.params).In h₀) (N : News h₀ L s.heap ((p0, listOf #[] c0) :: (p1, listOf #[] c1) :: rest)) (Tp : Top p loose mean mg mb h₀) (hk : cs.kind = .function)
  (hF : 3 ≤ F ∧ F ≤ 6) (hR : 3 ≤ R ∧ R ≤ 6) (hS : F * R ≤ 36) (hS0 : 9 ≤ F * R)
  (hg : (g, instObj 53 dg) ∈ rest) (hdg : (dg, dictOf es ng) ∈ rest) (q1 : getL "size" es = some (some (.int (F * R) uS))) (q2 : getL "pawn" es = some (some (.ref pA))) (m2 : (pA, listOf #[.ref p0, .ref p1] np) ∈ rest) (q3 : getL "king" es = some (some (.ref kA))) (m3 : (kA, listOf kv.toArray ck) ∈ rest) (i3 : IntsAre kv K) (s3 : (K.length : Int) = F * R)
  (q4 : getL "rays" es = some (some (.ref rA))) (m4 : (rA, listOf rs.toArray nr) ∈ rest) (e4 : rs[(4 : Int).toNat]? = some (.ref r4)) (e5 : rs[(5 : Int).toNat]? = some (.ref r5)) (e6 : rs[(6 : Int).toNat]? = some (.ref r6)) (e7 : rs[(7 : Int).toNat]? = some (.ref r7))
  (x4 : (r4, listOf v4.toArray n4) ∈ rest) (x5 : (r5, listOf v5.toArray n5) ∈ rest) (x6 : (r6, listOf v6.toArray n6) ∈ rest) (x7 : (r7, listOf v7.toArray n7) ∈ rest) (i4 : IntsAre v4 a4) (i5 : IntsAre v5 a5) (i6 : IntsAre v6 a6) (i7 : IntsAre v7 a7)
  (s4 : (a4.length : Int) = F * R) (s5 : (a5.length : Int) = F * R) (s6 : (a6.length : Int) = F * R) (s7 : (a7.length : Int) = F * R)
  (f1 : ∀ p ∈ rest, p.1 ≠ p0) (f2 : ∀ p ∈ rest, p.1 ≠ p1) (f3 : @Ne Nat p0 p1)
  (hd : dp + 2 < recursionLimit) (hu : un + 16 < cLine)
  (hret : ∀ (va vb : List Value) (ca cb : Nat) (h' : Heap) (tk' : Nat), Fr h₀ L h' m → News h₀ L h' ((p0, listOf va.toArray ca) :: (p1, listOf vb.toArray cb) :: rest) → IntsAre va (pawnTab (F * R) K a4 a7) → IntsAre vb (pawnTab (F * R) K a5 a6) → Q .none { s with heap := h', toks := tk' }) :
  wpAny (model PySem.Challenge.rw_tg0014_01.row.toRowW.1 w) (ktrTop dp un gd cn cs L a ccd cl outer) (call (.ref 92) [.ref g]) Q E s :=
  pawns_c_q ⟨⟨w, p, loose, mean, mg, mb, dp, un, gd, cn, cs, a, ccd, cl, outer, A₀, base, h₀, L, m, s, Q, E, rest, g, F, R, ⟨fun _ => [], [], [], [], []⟩, dg, es, ng⟩, uS, p0, p1, pA, kA, rA, r4, r5, r6, r7, c0, c1, np, ck, nr, n4, n5, n6, n7, kv, rs, v4, v5, v6, v7, K, a4, a5, a6, a7⟩ B Fr0 X N Tp hk hF hR hS hS0 hg hdg q1 q2 m2 q3 m3 i3 s3 q4 m4 e4 e5 e6 e7 x4 x5 x6 x7 i4 i5 i6 i7 s4 s5 s6 s7 f1 f2 f3 hd hu hret
end

section
set_option maxRecDepth 100000 in
set_option maxHeartbeats 8000000 in
def castles_c_P (w : World) (p : Program) (loose : List Str) (mean : ExcName → Option Value) (mg : Str → Option Value) (mb : Str → Option Value) (dp : Nat) (un : Nat) (gd : Option (List Code)) (cn : Str) (cs : Scope) (a : Addr) (ccd : Value) (cl : List (Str × Addr)) (outer : List Env) (A₀ : Around) (base : Heap) (h₀ : Heap) (L : Addr) (m : Str → Option Value) (s : Shared) (Q : Value → Shared → Prop) (E : Value → Shared → Prop) (rest : List (Addr × Obj)) (g : Addr) (dg : Addr) (es : List DictEntry) (ng : Nat) (F : Int) (R : Int) (uF : Tok) (uR : Tok) (uS : Tok) (cA : Addr) (cc : Nat) (rv : Option Value) : Prop := ∀ (B : Below A₀ base outer h₀) (Fr0 : Fr h₀ L s.heap m) (X : (hd.heap_39 w.params).In h₀) (N : News h₀ L s.heap ((dg, dictOf es ng) :: (cA, listOf #[] cc) :: rest)) (Tp : Top p loose mean mg mb h₀) (hk : cs.kind = .function)
  (hF : 3 ≤ F ∧ F ≤ 6) (hR : 3 ≤ R ∧ R ≤ 6) (hS : F * R ≤ 36) (hS0 : 9 ≤ F * R)
  (hg : (g, instObj 53 dg) ∈ rest) (q1 : getL "files" es = some (some (.int F uF))) (q2 : getL "ranks" es = some (some (.int R uR))) (q3 : getL "size" es = some (some (.int (F * R) uS))) (q4 : getL "has_castling" es = some (some (.bool false))) (q5 : getL "castles" es = some (some (.ref cA)))
  (q6 : (getL "rights_lost" es).isSome = true) (hel : es.length ≤ 100) (f1 : ∀ p ∈ rest, p.1 ≠ dg) (f2 : ∀ p ∈ rest, p.1 ≠ cA) (f3 : @Ne Nat dg cA)
  (hd : dp + 2 < recursionLimit) (hu : un + 16 < cLine)
  (hret : ∀ (es' : List DictEntry) (ng' : Nat) (va : List Value) (ca : Nat) (h' : Heap) (tk' : Nat), Fr h₀ L h' m → News h₀ L h' ((dg, dictOf es' ng') :: (cA, listOf va.toArray ca) :: rest) → (∀ x : Str, x ≠ "rights_lost" → getL x es' = getL x es) → Q .none { s with heap := h', toks := tk' }),
  wpAny (model PySem.Challenge.rw_tg0014_01.row.toRowW.1 w) (ktrTop dp un gd cn cs L a ccd cl outer) (call (.ref 106) [.ref g]) Q E s
set_option maxRecDepth 100000 in
set_option maxHeartbeats 8000000 in
theorem castles_c_q : ∀ x : Ctx × (Tok) × (Tok) × (Tok) × (Addr) × (Nat) × (Option Value), castles_c_P x.1.w x.1.p x.1.loose x.1.mean x.1.mg x.1.mb x.1.dp x.1.un x.1.gd x.1.cn x.1.cs x.1.a x.1.ccd x.1.cl x.1.outer x.1.A₀ x.1.base x.1.h₀ x.1.L x.1.m x.1.s x.1.Q x.1.E x.1.news x.1.g x.1.dg x.1.es x.1.ng x.1.F x.1.R x.2.1 x.2.2.1 x.2.2.2.1 x.2.2.2.2.1 x.2.2.2.2.2.1 x.2.2.2.2.2.2 := by
  refine eps_c ((?_ : ∀ w p loose mean mg mb dp un gd cn cs a ccd cl outer A₀ base h₀ L m s Q E rest g dg es ng F R uF uR uS cA cc rv, castles_c_P w p loose mean mg mb dp un gd cn cs a ccd cl outer A₀ base h₀ L m s Q E rest g dg es ng F R uF uR uS cA cc rv) _ _ _ _ _ _ _ _ _ _ _ _ _ _ _ _ _ _ _ _ _ _ _ _ _ _ _ _ _ _ _ _ _ _ _ _)
  intros w p loose mean mg mb dp un gd cn cs a ccd cl outer A₀ base h₀ L m s Q E rest g dg es ng F R uF uR uS cA cc rv B Fr0 X N Tp hk hF hR hS hS0 hg q1 q2 q3 q4 q5 q6 hel f1 f2 f3 hd hu hret
  w_top off
  revert X; k_fill; intro X
  refine wpAny_call ?_
  k_dflt (refine' code_def ?k1 ?k2 ?k3 ?k4 ?k5 ?kA ?kF ?kK ?k6 ?k7 ?k8 ?k9 ?kB ?_ ?c2 ?c3 ?c4 ?c5; (case kA => exact rfl); (case kF => exact rfl); (case kK => assumption); (case k1 => k_asm); (case k2 => k_asm); (case k3 => k_asm); (case k4 => k_asm); (case k5 => k_asm); (case k6 => k_is); (case k7 => k_is); (case k8 => (first | exact room2 hd rfl | exact room1 hd rfl | exact room0 hd | ktr_room)); (case k9 => exact BindsTo.of_eq rfl); (case c5 => decide); (case kB => exact locs rfl); (case c2 => exact rfl); (case c3 => exact rfl); (case c4 => exact rfl); k_whole; refine eps3 ((?_ : All3 _) _ _ _); intros g' L' h' FG' F' N' B' X' T'; (try dsimp only))
  (repeat' (first | (with_reducible first | refine const_tk ?_ | refine and_tk ?_ | refine or_tk ?_ | refine ior_tk ?_ | refine add_tk ?_ | refine sub_tk ?_ | refine inv_tk ?_) | ((with_reducible show wpAny _ _ (storeName _ _ _) _ _ _); k_dflt (refine' storeX_L ?sF ?sN ?_ ?sa ?sb; (case sF => k_asm); (case sN => k_asm); (case sa => rfl); (case sb => rfl); k_whole; refine eps1 ((?_ : All1 _) _); intros h' F' N'; (try k_sweep))) | ((with_reducible show wpAny _ _ (getAttr (Value.ref _) _ _) _ _ _); k_dflt (refine' get_own ?k1 ?k2 ?k3 ?k4 ?k5 ?k6 ?k7 ?k8 ?k9 ?_; (case k1 => k_asm); (case k2 => k_asm); (case k3 => k_inst); (case k4 => k_is); (case k5 => k_is); (case k6 => k_is); (case k7 => k_is); (case k8 => first | (with_reducible assumption) | exact (getL_put_ne (by decide) _).trans (by with_reducible assumption) | exact getL_put_self _); (case k9 => k_handed); k_whole)) | ((with_reducible show wpAny _ _ (call (Value.type _) _) _ _ _); (with_reducible rename Fr _ _ _ _ => F8); (with_reducible rename News _ _ _ _ => N8); first | (with_unfolding_all refine range1_rows F8 N8 ?_; refine eps5 ((?_ : All5 _) _ _ _ _ _); intros _ _ _ _ _ _ _ _ _) | (with_unfolding_all refine range2_rows F8 N8 ?_; refine eps5 ((?_ : All5 _) _ _ _ _ _); intros _ _ _ _ _ _ _ _ _) | (with_unfolding_all refine range3_rows F8 N8 (by decide) ?_; refine eps5 ((?_ : All5 _) _ _ _ _ _); intros _ _ _ _ _ _ _ _ _)) | ((with_reducible show wpAny _ _ (exec (PySem.Stmt.For ..) _) _ _ _); (rename Fr _ _ _ _ => lF'); (with_unfolding_all refine' For_invVF lF' ?k1 ?k2 ?_; (case k1 => exact rfl); (case k2 => exact rfl); k_whole)) | ((with_reducible show wpAny _ _ (pyIter (Value.ref _)) _ _ _); refine Stop.out ?_) | ((with_reducible show wpAny _ _ (newList _) _ _ _); k_dflt (refine' newList_K ?k1 ?k2 ?_; (case k1 => k_asm); (case k2 => k_asm); k_whole); refine eps2 ((?_ : All2 _) _ _); intros l' h' F' N' l1; (try k_lt l1); (try k_sweep)) | ((with_reducible show wpAny _ _ (setAttr (Value.ref _) _ _) _ _ _); k_dflt (refine' set_dict ?k1 ?k2 ?k3 ?k4 ?k5 ?k6 ?k7 ?k8 ?k9 ?k10 ?k11 ?k12 ?k13 ?_; (case k1 => k_asm); (case k2 => k_asm); (case k3 => k_asm); (case k4 => k_inst); (case k5 => rfl); (case k6 => k_is); (case k7 => k_is); (case k8 => k_is); (case k9 => k_is); (case k10 => with_reducible assumption); (case k11 => rfl); (case k12 => k_upd); (case k13 => exact Nat.le_trans (putL_len _) (by omega))); refine eps1 ((?_ : All1 _) _); intros h9 F9 N9; (try dsimp only)) | ((with_reducible show wpAny _ _ (binaryOp Operator.Mult (Value.ref _) (Value.int _ _)) _ _ _); k_dflt (refine' KMa.mul ?F ?N ?l ?lo ?hi ?z ?e ?_; (case F => k_asm); (case N => k_asm); (case l => is_list); (case lo => omega); (case hi => omega); (case z => (simp only [List.length_cons, List.length_nil]; omega)); (case e => exact rfl)); refine eps2 ((?_ : All2 _) _ _); intros D9 h9 F9 N9 l9; (try k_lt l9); (try dsimp only)) | (k_end; wrow_close) | walk1 | (dsimp only; walk1) | (leave1; (try dsimp only)) | fail "no step"))
  with_reducible rename News _ _ _ _ => N1
  refine exs2 (castles_start N1) ((?_ : All2 _) _ _); intros es' ng' hx0; obtain ⟨N2, hk1⟩ := hx0
  clear N1
  have w1 := (hk1 (Str.ofString "files") (by decide)).trans q1
  have w2 := (hk1 (Str.ofString "ranks") (by decide)).trans q2
  have w4 := (hk1 (Str.ofString "has_castling") (by decide)).trans q4
  have w5 := (hk1 (Str.ofString "castles") (by decide)).trans q5
  have b1 : ∀ p ∈ (dg, dictOf es' ng') :: rest, p.1 ≠ cA := List.forall_mem_cons.mpr ⟨f3, f2⟩
  refine Stop.mk ?_
  k_dflt (refine kst_range (n := 4) (σ := List Value × Nat) (fun d => (cA, listOf d.1.toArray d.2) :: (dg, dictOf es' ng') :: rest) (fun _ => []) (fun _ => True) ["base", "corner", "way", "goal"] (fun pre d => d.1.length = pre.length) ([], cc) (by rfl) (by assumption) (small_one (by omega) (by omega) (by omega) (by omega)) (by decide) (by k_asm) N2 trivial (fun _ h => nomatch h) rfl ?_ ?_)
  · refine cur2 ?_; refine eps9 ((?_ : All9 _) _ _ _ _ _ _ _ _ _); intros va ca pre k t u h tk own hk hlt hoff hf hp1 F'' N''
    replace N'' := N''; simp only [List.cons_append] at N''
    refine exs1 ((⟨_, rfl⟩ : ∃ x, x = (dg, dictOf es' ng') :: (rest ++ own))) ((?_ : All1 _) _); intros rest2 hr2
    replace N'' := N''; rw [← hr2] at N''
    have hg' : (g, instObj 53 dg) ∈ rest2 := by rw [hr2]; exact List.Mem.tail _ (List.mem_append_left own hg)
    have hdg' : (dg, dictOf es' ng') ∈ rest2 := by rw [hr2]; exact List.Mem.head _
    have f1' : ∀ p ∈ rest2, p.1 ≠ cA := by
      rw [hr2]
      exact fun p hp => (List.mem_append.mp (List.cons_append ▸ hp : p ∈ ((dg, dictOf es' ng') :: rest) ++ own)).elim (b1 p) fun h => hoff p h cA (List.Mem.head _)
    dsimp only at hp1 F'' N''
    (try dsimp only)
    (repeat' (first | (with_reducible first | refine const_tk ?_ | refine and_tk ?_ | refine or_tk ?_ | refine ior_tk ?_ | refine add_tk ?_ | refine sub_tk ?_ | refine inv_tk ?_) | ((with_reducible show wpAny _ _ (storeName _ _ _) _ _ _); k_dflt (refine' storeX_L ?sF ?sN ?_ ?sa ?sb; (case sF => k_asm); (case sN => k_asm); (case sa => rfl); (case sb => rfl); k_whole; refine eps1 ((?_ : All1 _) _); intros h' F' N'; (try k_sweep))) | ((with_reducible show wpAny _ _ (getAttr (Value.ref _) _ _) _ _ _); k_dflt (refine' get_own ?k1 ?k2 ?k3 ?k4 ?k5 ?k6 ?k7 ?k8 ?k9 ?_; (case k1 => k_asm); (case k2 => k_asm); (case k3 => k_inst); (case k4 => k_is); (case k5 => k_is); (case k6 => k_is); (case k7 => k_is); (case k8 => first | (with_reducible assumption) | exact (getL_put_ne (by decide) _).trans (by with_reducible assumption) | exact getL_put_self _); (case k9 => k_handed); k_whole)) | ((with_reducible show InvEndN ..); refine Stop.out ?_) | ((with_reducible show wpAny _ _ (call (Value.builtin _) [Value.ref _, _]) _ _ _); k_dflt (refine' append_K ?k1 ?k2 ?k3 ?_ ?z; (case k1 => k_asm); (case k2 => k_asm); (case k3 => k_upd); (case z => (rw [PySem.sizeLine_eq, List.size_toArray]; omega))); refine eps1 ((?_ : All1 _) _); intros h9 F9 N9; (try dsimp only)) | (k_end; wrow_close) | walk1 | (dsimp only; walk1) | (leave1; (try dsimp only)) | fail "no step"))
    all_goals (
      with_reducible rename News _ _ _ _ => N9
      replace N9 := N9; simp only [List.push_toArray] at N9
      subst hr2
      refine kst_end (va ++ [_], ca + 1) (by k_asm) (by k_asm) (fun p hp => List.mem_append_left own hp) (fun p hp => List.mem_append_right _ hp) rfl trivial (fun _ h => nomatch h) ?_ (by rw [List.length_append, List.length_append, hp1]; rfl)
      intro z hz hps hs
      have g1 := not_stored hs (y := "base") (by decide)
      have g2 := not_stored hs (y := "corner") (by decide)
      have g3 := not_stored hs (y := "way") (by decide)
      have g4 := not_stored hs (y := "goal") (by decide)
      simp only [if_neg g1, if_neg g2, if_neg g3, if_neg g4, if_neg hz]
      exact same1 hs)
  · refine cur2 ?_; refine eps5 ((?_ : All5 _) _ _ _ _ _); intros va ca u h tk hf hp1 F'' N''
    dsimp only at hp1 F'' N''
    (try dsimp only)
    (repeat' (first | (k_end; wrow_close) | walk1 | (dsimp only; walk1) | (leave1; (try dsimp only)) | fail "no step"))
    with_reducible rename News h₀ L _ _ => kN9
    exact hret _ _ va _ _ _ (by k_asm) (swap_ab kN9) hk1
theorem castles_c {w : World} {p : Program} {loose : List Str} {mean : ExcName → Option Value} {mg mb : Str → Option Value}
  {dp un : Nat} {gd : Option (List Code)} {cn : Str} {cs : Scope} {a : Addr} {ccd : Value} {cl : List (Str × Addr)} {outer : List Env} {A₀ : Around} {base h₀ : Heap} {L : Addr} {m : Str → Option Value} {s : Shared} {Q E : Value → Shared → Prop}
  {rest : List (Addr × Obj)} {g dg : Addr} {es : List DictEntry} {ng : Nat} {F R : Int} {uF uR uS : Tok} {cA : Addr} {cc : Nat} {rv : Option Value}
  (B : Below A₀ base outer h₀) (Fr0 : Fr h₀ L s.heap m) (X : (hd.heap_39 w.params).In h₀) (N : News h₀ L s.heap ((dg, dictOf es ng) :: (cA, listOf #[] cc) :: rest)) (Tp : Top p loose mean mg mb h₀) (hk : cs.kind = .function)
  (hF : 3 ≤ F ∧ F ≤ 6) (hR : 3 ≤ R ∧ R ≤ 6) (hS : F * R ≤ 36) (hS0 : 9 ≤ F * R)
  (hg : (g, instObj 53 dg) ∈ rest) (q1 : getL "files" es = some (some (.int F uF))) (q2 : getL "ranks" es = some (some (.int R uR))) (q3 : getL "size" es = some (some (.int (F * R) uS))) (q4 : getL "has_castling" es = some (some (.bool false))) (q5 : getL "castles" es = some (some (.ref cA)))
  (q6 : (getL "rights_lost" es).isSome = true) (hel : es.length ≤ 100) (f1 : ∀ p ∈ rest, p.1 ≠ dg) (f2 : ∀ p ∈ rest, p.1 ≠ cA) (f3 : @Ne Nat dg cA)
  (hd : dp + 2 < recursionLimit) (hu : un + 16 < cLine)
  (hret : ∀ (es' : List DictEntry) (ng' : Nat) (va : List Value) (ca : Nat) (h' : Heap) (tk' : Nat), Fr h₀ L h' m → News h₀ L h' ((dg, dictOf es' ng') :: (cA, listOf va.toArray ca) :: rest) → (∀ x : Str, x ≠ "rights_lost" → getL x es' = getL x es) → Q .none { s with heap := h', toks := tk' }) :
  wpAny (model PySem.Challenge.rw_tg0014_01.row.toRowW.1 w) (ktrTop dp un gd cn cs L a ccd cl outer) (call (.ref 106) [.ref g]) Q E s :=
  castles_c_q ⟨⟨w, p, loose, mean, mg, mb, dp, un, gd, cn, cs, a, ccd, cl, outer, A₀, base, h₀, L, m, s, Q, E, rest, g, F, R, ⟨fun _ => [], [], [], [], []⟩, dg, es, ng⟩, uF, uR, uS, cA, cc, rv⟩ B Fr0 X N Tp hk hF hR hS hS0 hg q1 q2 q3 q4 q5 q6 hel f1 f2 f3 hd hu hret
end

section
set_option maxRecDepth 100000 in
set_option maxHeartbeats 8000000 in
def masks_c_P (w : World) (p : Program) (loose : List Str) (mean : ExcName → Option Value) (mg : Str → Option Value) (mb : Str → Option Value) (dp : Nat) (un : Nat) (gd : Option (List Code)) (cn : Str) (cs : Scope) (a : Addr) (ccd : Value) (cl : List (Str × Addr)) (outer : List Env) (A₀ : Around) (base : Heap) (h₀ : Heap) (L : Addr) (m : Str → Option Value) (s : Shared) (Q : Value → Shared → Prop) (E : Value → Shared → Prop) (rest : List (Addr × Obj)) (g : Addr) (dg : Addr) (es : List DictEntry) (ng : Nat) (F : Int) (R : Int) (uF : Tok) (uR : Tok) (rm : Addr) (fm : Addr) (ca : Nat) (cb : Nat) : Prop := ∀ (B : Below A₀ base outer h₀) (Fr0 : Fr h₀ L s.heap m) (X : (hd.heap_39 w.params).In h₀) (N : News h₀ L s.heap ((rm, listOf #[] ca) :: (fm, listOf #[] cb) :: rest)) (Tp : Top p loose mean mg mb h₀) (hk : cs.kind = .function)
  (hF : 3 ≤ F ∧ F ≤ 6) (hR : 3 ≤ R ∧ R ≤ 6) (hS : F * R ≤ 36) (hS0 : 9 ≤ F * R)
  (hg : (g, instObj 53 dg) ∈ rest) (hdg : (dg, dictOf es ng) ∈ rest) (q1 : getL "files" es = some (some (.int F uF))) (q2 : getL "ranks" es = some (some (.int R uR))) (q3 : getL "rank_masks" es = some (some (.ref rm))) (q4 : getL "file_masks" es = some (some (.ref fm)))
  (f1 : ∀ p ∈ rest, p.1 ≠ rm) (f2 : ∀ p ∈ rest, p.1 ≠ fm) (f3 : @Ne Nat rm fm)
  (hd : dp + 2 < recursionLimit) (hu : un + 16 < cLine)
  (hret : ∀ (va vb : List Value) (ca cb : Nat) (h' : Heap) (tk' : Nat), Fr h₀ L h' m → News h₀ L h' ((rm, listOf va.toArray ca) :: (fm, listOf vb.toArray cb) :: rest) → IntsAre va (rankMasks F R) → IntsAre vb (fileMasks F R) → Q .none { s with heap := h', toks := tk' }),
  wpAny (model PySem.Challenge.rw_tg0014_01.row.toRowW.1 w) (ktrTop dp un gd cn cs L a ccd cl outer) (call (.ref 71) [.ref g]) Q E s
set_option maxRecDepth 100000 in
set_option maxHeartbeats 8000000 in
theorem masks_c_q : ∀ x : Ctx × (Tok) × (Tok) × (Addr) × (Addr) × (Nat) × (Nat), masks_c_P x.1.w x.1.p x.1.loose x.1.mean x.1.mg x.1.mb x.1.dp x.1.un x.1.gd x.1.cn x.1.cs x.1.a x.1.ccd x.1.cl x.1.outer x.1.A₀ x.1.base x.1.h₀ x.1.L x.1.m x.1.s x.1.Q x.1.E x.1.news x.1.g x.1.dg x.1.es x.1.ng x.1.F x.1.R x.2.1 x.2.2.1 x.2.2.2.1 x.2.2.2.2.1 x.2.2.2.2.2.1 x.2.2.2.2.2.2 := by
  refine eps_c ((?_ : ∀ w p loose mean mg mb dp un gd cn cs a ccd cl outer A₀ base h₀ L m s Q E rest g dg es ng F R uF uR rm fm ca cb, masks_c_P w p loose mean mg mb dp un gd cn cs a ccd cl outer A₀ base h₀ L m s Q E rest g dg es ng F R uF uR rm fm ca cb) _ _ _ _ _ _ _ _ _ _ _ _ _ _ _ _ _ _ _ _ _ _ _ _ _ _ _ _ _ _ _ _ _ _ _ _)
  intros w p loose mean mg mb dp un gd cn cs a ccd cl outer A₀ base h₀ L m s Q E rest g dg es ng F R uF uR rm fm ca cb B Fr0 X N Tp hk hF hR hS hS0 hg hdg q1 q2 q3 q4 f1 f2 f3 hd hu hret
  w_top off
  revert X; k_fill; intro X
  refine wpAny_call ?_
  k_dflt (refine' code_def ?k1 ?k2 ?k3 ?k4 ?k5 ?kA ?kF ?kK ?k6 ?k7 ?k8 ?k9 ?kB ?_ ?c2 ?c3 ?c4 ?c5; (case kA => exact rfl); (case kF => exact rfl); (case kK => assumption); (case k1 => k_asm); (case k2 => k_asm); (case k3 => k_asm); (case k4 => k_asm); (case k5 => k_asm); (case k6 => k_is); (case k7 => k_is); (case k8 => (first | exact room2 hd rfl | exact room1 hd rfl | exact room0 hd | ktr_room)); (case k9 => exact BindsTo.of_eq rfl); (case c5 => decide); (case kB => exact locs rfl); (case c2 => exact rfl); (case c3 => exact rfl); (case c4 => exact rfl); k_whole; refine eps3 ((?_ : All3 _) _ _ _); intros g' L' h' FG' F' N' B' X' T'; (try dsimp only))
  have hrow : (1 * 2 ^ F.toNat - 1 : Int).natAbs < 2 ^ 64 := by
    rcases four hF with rfl | rfl | rfl | rfl <;> decide
  (repeat' (first | (with_reducible first | refine const_tk ?_ | refine and_tk ?_ | refine or_tk ?_ | refine ior_tk ?_ | refine add_tk ?_ | refine sub_tk ?_ | refine inv_tk ?_) | ((with_reducible show wpAny _ _ (storeName _ _ _) _ _ _); k_dflt (refine' storeX_L ?sF ?sN ?_ ?sa ?sb; (case sF => k_asm); (case sN => k_asm); (case sa => rfl); (case sb => rfl); k_whole; refine eps1 ((?_ : All1 _) _); intros h' F' N'; (try k_sweep))) | ((with_reducible show wpAny _ _ (getAttr (Value.ref _) _ _) _ _ _); k_dflt (refine' get_own ?k1 ?k2 ?k3 ?k4 ?k5 ?k6 ?k7 ?k8 ?k9 ?_; (case k1 => k_asm); (case k2 => k_asm); (case k3 => k_inst); (case k4 => k_is); (case k5 => k_is); (case k6 => k_is); (case k7 => k_is); (case k8 => first | (with_reducible assumption) | exact (getL_put_ne (by decide) _).trans (by with_reducible assumption) | exact getL_put_self _); (case k9 => k_handed); k_whole)) | ((with_reducible show wpAny _ _ (call (Value.type _) _) _ _ _); (with_reducible rename Fr _ _ _ _ => F8); (with_reducible rename News _ _ _ _ => N8); first | (with_unfolding_all refine range1_rows F8 N8 ?_; refine eps5 ((?_ : All5 _) _ _ _ _ _); intros _ _ _ _ _ _ _ _ _) | (with_unfolding_all refine range2_rows F8 N8 ?_; refine eps5 ((?_ : All5 _) _ _ _ _ _); intros _ _ _ _ _ _ _ _ _) | (with_unfolding_all refine range3_rows F8 N8 (by decide) ?_; refine eps5 ((?_ : All5 _) _ _ _ _ _); intros _ _ _ _ _ _ _ _ _)) | ((with_reducible show wpAny _ _ (exec (PySem.Stmt.For ..) _) _ _ _); (rename Fr _ _ _ _ => lF'); (with_unfolding_all refine' For_invVF lF' ?k1 ?k2 ?_; (case k1 => exact rfl); (case k2 => exact rfl); k_whole)) | ((with_reducible show wpAny _ _ (pyIter (Value.ref _)) _ _ _); refine Stop.out ?_) | ((with_reducible refine shl_tk ?a ?b ?c ?_); (case a => (first | exact f6 (by with_reducible assumption) | omega)); (case b => (first | exact f6 (by with_reducible assumption) | omega)); (case c => first | decide | with_reducible assumption)) | (k_end; wrow_close) | walk1 | (dsimp only; walk1) | (leave1; (try dsimp only)) | fail "no step"))
  refine Stop.mk ?_
  k_dflt (refine kst_range (σ := List Value × Nat × Int × Tok) (fun c => (rm, listOf c.1.toArray c.2.1) :: (fm, listOf #[] cb) :: rest) (fun c => [("column", .int c.2.2.1 c.2.2.2)]) (fun _ => True) [] (fun pre c => IntsAre c.1 (pre.map fun r => (1 * 2 ^ F.toNat - 1) * 2 ^ (r * F).toNat) ∧ c.2.2.1 = pre.foldl (fun c r => Builtin.bitOr c (1 * 2 ^ (r * F).toNat)) 0) ([], ca, 0, _) (by rfl) (by assumption) (small_one (by omega) (by omega) (by omega) (by omega)) (rangeSize_nat _ _) (by k_asm) (by k_asm) trivial (List.forall_mem_cons.mpr ⟨rfl, List.forall_mem_nil _⟩) ⟨.nil, rfl⟩ ?_ ?_)
  · refine cur4 ?_; refine eps11 ((?_ : All11 _) _ _ _ _ _ _ _ _ _ _ _); intros vs c col tc pre k t u h tk own hk hlt hoff hf hx0 F'' N''; obtain ⟨hp1, hp2⟩ := hx0
    replace N'' := N''; simp only [List.cons_append] at N''
    have hg' := List.mem_append_left own hg
    have hdg' := List.mem_append_left own hdg
    have f1' : ∀ p ∈ rest ++ own, p.1 ≠ rm := fun p hp => (List.mem_append.mp hp).elim (f1 p) fun h => hoff p h rm (List.Mem.head _)
    have f2' : ∀ p ∈ rest ++ own, p.1 ≠ fm := fun p hp => (List.mem_append.mp hp).elim (f2 p) fun h => hoff p h fm (List.Mem.tail _ (List.Mem.head _))
    have hk6 := turn6 hR hk hlt
    have hkF := turnM hk6 (Int.le_trans (by decide) hF.1) hF.2
    have hlv := hp1.length
    replace hlv := hlv; rw [List.length_map] at hlv
    dsimp only at hp1 hp2 hlv F'' N''
    (try dsimp only)
    (repeat' (first | (with_reducible first | refine const_tk ?_ | refine and_tk ?_ | refine or_tk ?_ | refine ior_tk ?_ | refine add_tk ?_ | refine sub_tk ?_ | refine inv_tk ?_) | ((with_reducible show wpAny _ _ (storeName _ _ _) _ _ _); k_dflt (refine' storeX_L ?sF ?sN ?_ ?sa ?sb; (case sF => k_asm); (case sN => k_asm); (case sa => rfl); (case sb => rfl); k_whole; refine eps1 ((?_ : All1 _) _); intros h' F' N'; (try k_sweep))) | ((with_reducible show wpAny _ _ (getAttr (Value.ref _) _ _) _ _ _); k_dflt (refine' get_own ?k1 ?k2 ?k3 ?k4 ?k5 ?k6 ?k7 ?k8 ?k9 ?_; (case k1 => k_asm); (case k2 => k_asm); (case k3 => k_inst); (case k4 => k_is); (case k5 => k_is); (case k6 => k_is); (case k7 => k_is); (case k8 => first | (with_reducible assumption) | exact (getL_put_ne (by decide) _).trans (by with_reducible assumption) | exact getL_put_self _); (case k9 => k_handed); k_whole)) | ((with_reducible show InvEndN ..); refine Stop.out ?_) | ((with_reducible show wpAny _ _ (call (Value.builtin _) [Value.ref _, _]) _ _ _); k_dflt (refine' append_K ?k1 ?k2 ?k3 ?_ ?z; (case k1 => k_asm); (case k2 => k_asm); (case k3 => k_upd); (case z => (rw [PySem.sizeLine_eq, List.size_toArray]; omega))); refine eps1 ((?_ : All1 _) _); intros h9 F9 N9; (try dsimp only)) | ((with_reducible refine shl_tk ?a ?b ?c ?_); (case a => (first | exact And.left (by with_reducible assumption) | omega)); (case b => (first | exact And.left (by with_reducible assumption) | omega)); (case c => first | decide | with_reducible assumption)) | (k_end; wrow_close) | walk1 | (dsimp only; walk1) | (leave1; (try dsimp only)) | fail "no step"))
    with_reducible rename News _ _ _ _ => N9
    replace N9 := N9; simp only [List.push_toArray] at N9
    refine kst_end (vs ++ [_], c + 1, _, _) (by k_asm) (by k_asm) (fun p hp => List.mem_append_left own hp) (fun p hp => ?_) rfl trivial (List.forall_mem_cons.mpr ⟨rfl, List.forall_mem_nil _⟩) ?_ ⟨?_, ?_⟩
    · exact List.mem_append_right _ hp
    · intro z hz hps hs
      have hcol : z ≠ "column" := hps _ (List.Mem.head _)
      simp [kstB, hcol, hz]
    · rw [List.map_append]
      exact IntsAre.append hp1 (.cons _ _ .nil)
    · rw [List.foldl_append, List.foldl_cons, List.foldl_nil, ← hp2]
      rfl
  · refine cur4 ?_; refine eps7 ((?_ : All7 _) _ _ _ _ _ _ _); intros vs c col tc u h tk hf hx0 F'' N''; obtain ⟨hp1, hp2⟩ := hx0
    dsimp only at hp1 hp2 F'' N''
    obtain rfl : col = columnV F R := hp2
    have hcb := column_fits hF hR
    have hlv := hp1.length
    (try dsimp only)
    (repeat' (first | ((with_reducible show wpAny _ _ (getAttr (Value.ref _) _ _) _ _ _); k_dflt (refine' get_own ?k1 ?k2 ?k3 ?k4 ?k5 ?k6 ?k7 ?k8 ?k9 ?_; (case k1 => k_asm); (case k2 => k_asm); (case k3 => k_inst); (case k4 => k_is); (case k5 => k_is); (case k6 => k_is); (case k7 => k_is); (case k8 => first | (with_reducible assumption) | exact (getL_put_ne (by decide) _).trans (by with_reducible assumption) | exact getL_put_self _); (case k9 => k_handed); k_whole)) | ((with_reducible show wpAny _ _ (call (Value.type _) _) _ _ _); (with_reducible rename Fr _ _ _ _ => F8); (with_reducible rename News _ _ _ _ => N8); first | (with_unfolding_all refine range1_rows F8 N8 ?_; refine eps5 ((?_ : All5 _) _ _ _ _ _); intros _ _ _ _ _ _ _ _ _) | (with_unfolding_all refine range2_rows F8 N8 ?_; refine eps5 ((?_ : All5 _) _ _ _ _ _); intros _ _ _ _ _ _ _ _ _) | (with_unfolding_all refine range3_rows F8 N8 (by decide) ?_; refine eps5 ((?_ : All5 _) _ _ _ _ _); intros _ _ _ _ _ _ _ _ _)) | ((with_reducible show wpAny _ _ (exec (PySem.Stmt.For ..) _) _ _ _); (rename Fr _ _ _ _ => lF'); (with_unfolding_all refine' For_invVF lF' ?k1 ?k2 ?_; (case k1 => exact rfl); (case k2 => exact rfl); k_whole)) | ((with_reducible show wpAny _ _ (pyIter (Value.ref _)) _ _ _); refine Stop.out ?_) | (k_end; wrow_close) | walk1 | (dsimp only; walk1) | (leave1; (try dsimp only)) | fail "no step"))
    refine Stop.mk ?_
    k_dflt (refine kst_range (σ := List Value × Nat) (fun d => (rm, listOf vs.toArray c) :: (fm, listOf d.1.toArray d.2) :: rest) (fun _ => []) (fun _ => True) [] (fun pre d => IntsAre d.1 (pre.map fun f => columnV F R * 2 ^ f.toNat)) ([], cb) (by rfl) (by assumption) (small_one (by omega) (by omega) (by omega) (by omega)) (rangeSize_nat _ _) (by k_asm) (by k_asm) trivial (fun _ h => nomatch h) .nil ?_ ?_)
    · refine cur2 ?_; refine eps9 ((?_ : All9 _) _ _ _ _ _ _ _ _ _); intros vs2 c2 pre k t u h tk own hk hlt hoff hf hq F'' N''
      replace N'' := N''; simp only [List.cons_append] at N''
      have hg' := List.mem_append_left own hg
      have hdg' := List.mem_append_left own hdg
      have f1' : ∀ p ∈ rest ++ own, p.1 ≠ rm := fun p hp => (List.mem_append.mp hp).elim (f1 p) fun h => hoff p h rm (List.Mem.head _)
      have f2' : ∀ p ∈ rest ++ own, p.1 ≠ fm := fun p hp => (List.mem_append.mp hp).elim (f2 p) fun h => hoff p h fm (List.Mem.tail _ (List.Mem.head _))
      have hlv2 := hq.length
      replace hlv2 := hlv2; rw [List.length_map] at hlv2
      dsimp only at hq hlv2 F'' N''
      (try dsimp only)
      (repeat' (first | ((with_reducible show wpAny _ _ (getAttr (Value.ref _) _ _) _ _ _); k_dflt (refine' get_own ?k1 ?k2 ?k3 ?k4 ?k5 ?k6 ?k7 ?k8 ?k9 ?_; (case k1 => k_asm); (case k2 => k_asm); (case k3 => k_inst); (case k4 => k_is); (case k5 => k_is); (case k6 => k_is); (case k7 => k_is); (case k8 => first | (with_reducible assumption) | exact (getL_put_ne (by decide) _).trans (by with_reducible assumption) | exact getL_put_self _); (case k9 => k_handed); k_whole)) | ((with_reducible show InvEndN ..); refine Stop.out ?_) | ((with_reducible show wpAny _ _ (call (Value.builtin _) [Value.ref _, _]) _ _ _); k_dflt (refine' append_K ?k1 ?k2 ?k3 ?_ ?z; (case k1 => k_asm); (case k2 => k_asm); (case k3 => k_upd); (case z => (rw [PySem.sizeLine_eq, List.size_toArray]; omega))); refine eps1 ((?_ : All1 _) _); intros h9 F9 N9; (try dsimp only)) | ((with_reducible refine shl_tk ?a ?b ?c ?_); (case a => (omega)); (case b => (omega)); (case c => first | decide | with_reducible assumption)) | (k_end; wrow_close) | walk1 | (dsimp only; walk1) | (leave1; (try dsimp only)) | fail "no step"))
      with_reducible rename News _ _ _ _ => N9
      replace N9 := N9; simp only [List.push_toArray] at N9
      refine kst_end (vs2 ++ [_], c2 + 1) (by k_asm) (by k_asm) (fun p hp => List.mem_append_left own hp) (fun p hp => List.mem_append_right _ hp) rfl trivial (fun _ h => nomatch h) ?_ ?_
      · intro z hz hps hs
        simp [kstB, hz]
      · rw [List.map_append]
        exact IntsAre.append hq (.cons _ _ .nil)
    · refine cur2 ?_; refine eps5 ((?_ : All5 _) _ _ _ _ _); intros vs2 c2 u h tk hf hq F'' N''
      dsimp only at hq F'' N''
      (try dsimp only)
      (repeat' (first | (k_end; wrow_close) | walk1 | (dsimp only; walk1) | (leave1; (try dsimp only)) | fail "no step"))
      exact hret _ _ _ _ _ _ (by k_asm) (by k_asm) hp1 hq
theorem masks_c {w : World} {p : Program} {loose : List Str} {mean : ExcName → Option Value} {mg mb : Str → Option Value}
  {dp un : Nat} {gd : Option (List Code)} {cn : Str} {cs : Scope} {a : Addr} {ccd : Value} {cl : List (Str × Addr)} {outer : List Env} {A₀ : Around} {base h₀ : Heap} {L : Addr} {m : Str → Option Value} {s : Shared} {Q E : Value → Shared → Prop}
  {rest : List (Addr × Obj)} {g dg : Addr} {es : List DictEntry} {ng : Nat} {F R : Int} {uF uR : Tok} {rm fm : Addr} {ca cb : Nat}
  (B : Below A₀ base outer h₀) (Fr0 : Fr h₀ L s.heap m) (X : (hd.heap_39 w.params).In h₀) (N : News h₀ L s.heap ((rm, listOf #[] ca) :: (fm, listOf #[] cb) :: rest)) (Tp : Top p loose mean mg mb h₀) (hk : cs.kind = .function)
  (hF : 3 ≤ F ∧ F ≤ 6) (hR : 3 ≤ R ∧ R ≤ 6) (hS : F * R ≤ 36) (hS0 : 9 ≤ F * R)
  (hg : (g, instObj 53 dg) ∈ rest) (hdg : (dg, dictOf es ng) ∈ rest) (q1 : getL "files" es = some (some (.int F uF))) (q2 : getL "ranks" es = some (some (.int R uR))) (q3 : getL "rank_masks" es = some (some (.ref rm))) (q4 : getL "file_masks" es = some (some (.ref fm)))
  (f1 : ∀ p ∈ rest, p.1 ≠ rm) (f2 : ∀ p ∈ rest, p.1 ≠ fm) (f3 : @Ne Nat rm fm)
  (hd : dp + 2 < recursionLimit) (hu : un + 16 < cLine)
  (hret : ∀ (va vb : List Value) (ca cb : Nat) (h' : Heap) (tk' : Nat), Fr h₀ L h' m → News h₀ L h' ((rm, listOf va.toArray ca) :: (fm, listOf vb.toArray cb) :: rest) → IntsAre va (rankMasks F R) → IntsAre vb (fileMasks F R) → Q .none { s with heap := h', toks := tk' }) :
  wpAny (model PySem.Challenge.rw_tg0014_01.row.toRowW.1 w) (ktrTop dp un gd cn cs L a ccd cl outer) (call (.ref 71) [.ref g]) Q E s :=
  masks_c_q ⟨⟨w, p, loose, mean, mg, mb, dp, un, gd, cn, cs, a, ccd, cl, outer, A₀, base, h₀, L, m, s, Q, E, rest, g, F, R, ⟨fun _ => [], [], [], [], []⟩, dg, es, ng⟩, uF, uR, rm, fm, ca, cb⟩ B Fr0 X N Tp hk hF hR hS hS0 hg hdg q1 q2 q3 q4 f1 f2 f3 hd hu hret
end

section
set_option maxRecDepth 100000 in
set_option maxHeartbeats 8000000 in
def knights_c_P (w : World) (p : Program) (loose : List Str) (mean : ExcName → Option Value) (mg : Str → Option Value) (mb : Str → Option Value) (dp : Nat) (un : Nat) (gd : Option (List Code)) (cn : Str) (cs : Scope) (a : Addr) (ccd : Value) (cl : List (Str × Addr)) (outer : List Env) (A₀ : Around) (base : Heap) (h₀ : Heap) (L : Addr) (m : Str → Option Value) (s : Shared) (Q : Value → Shared → Prop) (E : Value → Shared → Prop) (rest : List (Addr × Obj)) (g : Addr) (dg : Addr) (es : List DictEntry) (ng : Nat) (F : Int) (R : Int) (uF : Tok) (uS : Tok) (uU : Tok) (nA : Addr) (fA : Addr) (cn' : Nat) (cf : Nat) (fv : List Value) : Prop := ∀ (B : Below A₀ base outer h₀) (Fr0 : Fr h₀ L s.heap m) (X : (hd.heap_39 w.params).In h₀) (N : News h₀ L s.heap ((nA, listOf #[] cn') :: rest)) (Tp : Top p loose mean mg mb h₀) (hk : cs.kind = .function)
  (hF : 3 ≤ F ∧ F ≤ 6) (hR : 3 ≤ R ∧ R ≤ 6) (hS : F * R ≤ 36) (hS0 : 9 ≤ F * R)
  (hg : (g, instObj 53 dg) ∈ rest) (hdg : (dg, dictOf es ng) ∈ rest) (q0 : getL "files" es = some (some (.int F uF))) (q1 : getL "size" es = some (some (.int (F * R) uS))) (q2 : getL "full" es = some (some (.int (fullV F R) uU))) (q3 : getL "file_masks" es = some (some (.ref fA))) (m3 : (fA, listOf fv.toArray cf) ∈ rest) (i3 : IntsAre fv (fileMasks F R)) (q4 : getL "knight" es = some (some (.ref nA)))
  (f1 : ∀ p ∈ rest, p.1 ≠ nA)
  (hd : dp + 2 < recursionLimit) (hu : un + 16 < cLine)
  (hret : ∀ (va : List Value) (ca : Nat) (h' : Heap) (tk' : Nat), Fr h₀ L h' m → News h₀ L h' ((nA, listOf va.toArray ca) :: rest) → IntsAre va (knightTab F R) → Q .none { s with heap := h', toks := tk' }),
  wpAny (model PySem.Challenge.rw_tg0014_01.row.toRowW.1 w) (ktrTop dp un gd cn cs L a ccd cl outer) (call (.ref 99) [.ref g]) Q E s
set_option maxRecDepth 100000 in
set_option maxHeartbeats 8000000 in
theorem knights_c_q : ∀ x : Ctx × (Tok) × (Tok) × (Tok) × (Addr) × (Addr) × (Nat) × (Nat) × (List Value), knights_c_P x.1.w x.1.p x.1.loose x.1.mean x.1.mg x.1.mb x.1.dp x.1.un x.1.gd x.1.cn x.1.cs x.1.a x.1.ccd x.1.cl x.1.outer x.1.A₀ x.1.base x.1.h₀ x.1.L x.1.m x.1.s x.1.Q x.1.E x.1.news x.1.g x.1.dg x.1.es x.1.ng x.1.F x.1.R x.2.1 x.2.2.1 x.2.2.2.1 x.2.2.2.2.1 x.2.2.2.2.2.1 x.2.2.2.2.2.2.1 x.2.2.2.2.2.2.2.1 x.2.2.2.2.2.2.2.2 := by
  refine eps_c ((?_ : ∀ w p loose mean mg mb dp un gd cn cs a ccd cl outer A₀ base h₀ L m s Q E rest g dg es ng F R uF uS uU nA fA cn' cf fv, knights_c_P w p loose mean mg mb dp un gd cn cs a ccd cl outer A₀ base h₀ L m s Q E rest g dg es ng F R uF uS uU nA fA cn' cf fv) _ _ _ _ _ _ _ _ _ _ _ _ _ _ _ _ _ _ _ _ _ _ _ _ _ _ _ _ _ _ _ _ _ _ _ _ _ _)
  intros w p loose mean mg mb dp un gd cn cs a ccd cl outer A₀ base h₀ L m s Q E rest g dg es ng F R uF uS uU nA fA cn' cf fv B Fr0 X N Tp hk hF hR hS hS0 hg hdg q0 q1 q2 q3 m3 i3 q4 f1 hd hu hret
  w_top off
  revert X; k_fill; intro X
  have hfl := fileMasks_len (F := F) (R := R) hF.1
  refine wpAny_call ?_
  k_dflt (refine' code_def ?k1 ?k2 ?k3 ?k4 ?k5 ?kA ?kF ?kK ?k6 ?k7 ?k8 ?k9 ?kB ?_ ?c2 ?c3 ?c4 ?c5; (case kA => exact rfl); (case kF => exact rfl); (case kK => assumption); (case k1 => k_asm); (case k2 => k_asm); (case k3 => k_asm); (case k4 => k_asm); (case k5 => k_asm); (case k6 => k_is); (case k7 => k_is); (case k8 => (first | exact room2 hd rfl | exact room1 hd rfl | exact room0 hd | ktr_room)); (case k9 => exact BindsTo.of_eq rfl); (case c5 => decide); (case kB => exact locs rfl); (case c2 => exact rfl); (case c3 => exact rfl); (case c4 => exact rfl); k_whole; refine eps3 ((?_ : All3 _) _ _ _); intros g' L' h' FG' F' N' B' X' T'; (try dsimp only))
  (repeat' (first | (with_reducible first | refine const_tk ?_ | refine and_tk ?_ | refine or_tk ?_ | refine ior_tk ?_ | refine add_tk ?_ | refine sub_tk ?_ | refine inv_tk ?_) | ((with_reducible show wpAny _ _ (storeName _ _ _) _ _ _); k_dflt (refine' storeX_L ?sF ?sN ?_ ?sa ?sb; (case sF => k_asm); (case sN => k_asm); (case sa => rfl); (case sb => rfl); k_whole; refine eps1 ((?_ : All1 _) _); intros h' F' N'; (try k_sweep))) | ((with_reducible show wpAny _ _ (getAttr (Value.ref _) _ _) _ _ _); k_dflt (refine' get_own ?k1 ?k2 ?k3 ?k4 ?k5 ?k6 ?k7 ?k8 ?k9 ?_; (case k1 => k_asm); (case k2 => k_asm); (case k3 => k_inst); (case k4 => k_is); (case k5 => k_is); (case k6 => k_is); (case k7 => k_is); (case k8 => first | (with_reducible assumption) | exact (getL_put_ne (by decide) _).trans (by with_reducible assumption) | exact getL_put_self _); (case k9 => k_handed); k_whole)) | ((with_reducible show wpAny _ _ (subscriptTail _ _ (Value.ref _) (Value.int _ _)) _ _ _); k_dflt (refine' ksa_sub ?k1 ?k2 ?k3 ?k4 ?k5 ?k6 ?_ ?k7; (case k1 => k_asm); (case k2 => k_mem); (case k3 => with_reducible assumption); (case k4 => (first | decide | exact f01 (by with_reducible assumption) | ksa_idx)); (case k5 => (first | decide | exact f01 (by with_reducible assumption) | ksa_idx)); (case k6 => (first | decide | exact f01 (by with_reducible assumption) | ksa_idx)); (case k7 => with_unfolding_all rfl); k_whole); refine eps1 ((?_ : All1 _) _); intros t9; delta At1; (try dsimp only)) | ((with_reducible show wpAny _ _ (call (Value.type _) _) _ _ _); (with_reducible rename Fr _ _ _ _ => F8); (with_reducible rename News _ _ _ _ => N8); first | (with_unfolding_all refine range1_rows F8 N8 ?_; refine eps5 ((?_ : All5 _) _ _ _ _ _); intros _ _ _ _ _ _ _ _ _) | (with_unfolding_all refine range2_rows F8 N8 ?_; refine eps5 ((?_ : All5 _) _ _ _ _ _); intros _ _ _ _ _ _ _ _ _) | (with_unfolding_all refine range3_rows F8 N8 (by decide) ?_; refine eps5 ((?_ : All5 _) _ _ _ _ _); intros _ _ _ _ _ _ _ _ _)) | ((with_reducible show wpAny _ _ (exec (PySem.Stmt.For ..) _) _ _ _); (rename Fr _ _ _ _ => lF'); (with_unfolding_all refine' For_invVF lF' ?k1 ?k2 ?_; (case k1 => exact rfl); (case k2 => exact rfl); k_whole)) | ((with_reducible show wpAny _ _ (pyIter (Value.ref _)) _ _ _); refine Stop.out ?_) | (k_end; wrow_close) | walk1 | (dsimp only; walk1) | (leave1; (try dsimp only)) | fail "no step"))
  refine Stop.mk ?_
  k_dflt (refine kst_range (σ := List Value × Nat) (fun d => (nA, listOf d.1.toArray d.2) :: rest) (fun _ => []) (fun _ => True) ["b", "near", "far", "found"] (fun pre d => IntsAre d.1 (pre.map fun q => knightV F R q)) ([], cn') (by rfl) (by assumption) (small_FR (Int.le_trans (by decide) hS0) hS) (rangeSize_nat _ _) (by k_asm) (by k_asm) trivial (fun _ h => nomatch h) .nil ?_ ?_)
  · refine cur2 ?_; refine eps9 ((?_ : All9 _) _ _ _ _ _ _ _ _ _); intros va ca pre k t u h tk own hk hlt hoff hf hp1 F'' N''
    replace N'' := N''; simp only [List.cons_append] at N''
    have hg' := List.mem_append_left own hg
    have hdg' := List.mem_append_left own hdg
    have m3' := List.mem_append_left own m3
    have f1' : ∀ p ∈ rest ++ own, p.1 ≠ nA := fun p hp => (List.mem_append.mp hp).elim (f1 p) fun h => hoff p h nA (List.Mem.head _)
    obtain ⟨hk0, hk1⟩ := turn_up (Int.le_trans (by decide) hS0) hk hlt
    obtain ⟨b1, b2, b3⟩ := near_fits hF hR (q := k) hk0 (Int.lt_of_lt_of_le hk1 hS)
    unfold nearK notFirst notLast at b1
    unfold farK notFirst2 notLast2 notFirst notLast at b2
    have hl1 := hp1.length
    replace hl1 := hl1; rw [List.length_map] at hl1
    dsimp only at hp1 hl1 F'' N''
    have hlm := turn_len hS hlt
    clear hk hlt
    replace hlm := hlm; rw [← hl1] at hlm
    clear hl1
    (try dsimp only)
    (repeat' (first | (with_reducible first | refine const_tk ?_ | refine and_tk ?_ | refine or_tk ?_ | refine ior_tk ?_ | refine add_tk ?_ | refine sub_tk ?_ | refine inv_tk ?_) | ((with_reducible show wpAny _ _ (storeName _ _ _) _ _ _); k_dflt (refine' storeX_L ?sF ?sN ?_ ?sa ?sb; (case sF => k_asm); (case sN => k_asm); (case sa => rfl); (case sb => rfl); k_whole; refine eps1 ((?_ : All1 _) _); intros h' F' N'; (try k_sweep))) | ((with_reducible show wpAny _ _ (getAttr (Value.ref _) _ _) _ _ _); k_dflt (refine' get_own ?k1 ?k2 ?k3 ?k4 ?k5 ?k6 ?k7 ?k8 ?k9 ?_; (case k1 => k_asm); (case k2 => k_asm); (case k3 => k_inst); (case k4 => k_is); (case k5 => k_is); (case k6 => k_is); (case k7 => k_is); (case k8 => first | (with_reducible assumption) | exact (getL_put_ne (by decide) _).trans (by with_reducible assumption) | exact getL_put_self _); (case k9 => k_handed); k_whole)) | ((with_reducible show InvEndN ..); refine Stop.out ?_) | ((with_reducible show wpAny _ _ (call (Value.builtin _) [Value.ref _, _]) _ _ _); k_dflt (refine' append_K ?k1 ?k2 ?k3 ?_ ?z; (case k1 => k_asm); (case k2 => k_asm); (case k3 => k_upd); (case z => (rw [PySem.sizeLine_eq, List.size_toArray]; omega))); refine eps1 ((?_ : All1 _) _); intros h9 F9 N9; (try dsimp only)) | ((with_reducible refine shr_tk ?kb1 ?_); (case kb1 => (first | decide | omega))) | ((with_reducible refine shl_tk ?a ?b ?c ?_); (case a => (first | with_reducible assumption | decide | exact le6 (by with_reducible assumption) (by first | with_reducible assumption | exact And.right (by with_reducible assumption) | exact in_hi (by with_reducible assumption) (by with_reducible assumption)) | exact f6 (by with_reducible assumption) | omega)); (case b => (first | with_reducible assumption | decide | exact le6 (by with_reducible assumption) (by first | with_reducible assumption | exact And.right (by with_reducible assumption) | exact in_hi (by with_reducible assumption) (by with_reducible assumption)) | exact f6 (by with_reducible assumption) | omega)); (case c => first | decide | with_reducible assumption)) | (k_end; wrow_close) | walk1 | (dsimp only; walk1) | (leave1; (try dsimp only)) | fail "no step"))
    with_reducible rename News _ _ _ _ => N9
    replace N9 := N9; simp only [List.push_toArray] at N9
    refine kst_end (va ++ [_], ca + 1) (by k_asm) (by k_asm) (fun p hp => List.mem_append_left own hp) (fun p hp => List.mem_append_right _ hp) rfl trivial (fun _ h => nomatch h) ?_ ?_
    · intro z hz hps hs
      have g1 := not_stored hs (y := "b") (by decide)
      have g2 := not_stored hs (y := "near") (by decide)
      have g3 := not_stored hs (y := "far") (by decide)
      have g4 := not_stored hs (y := "found") (by decide)
      simp only [if_neg g1, if_neg g2, if_neg g3, if_neg g4, if_neg hz]
      exact same1 hs
    · rw [List.map_append]
      exact IntsAre.append hp1 (.cons _ _ .nil)
  · refine cur2 ?_; refine eps5 ((?_ : All5 _) _ _ _ _ _); intros va ca u h tk hf hp1 F'' N''
    dsimp only at hp1 F'' N''
    (try dsimp only)
    (repeat' (first | (k_end; wrow_close) | walk1 | (dsimp only; walk1) | (leave1; (try dsimp only)) | fail "no step"))
    exact hret _ _ _ _ (by k_asm) (by k_asm) hp1
theorem knights_c {w : World} {p : Program} {loose : List Str} {mean : ExcName → Option Value} {mg mb : Str → Option Value}
  {dp un : Nat} {gd : Option (List Code)} {cn : Str} {cs : Scope} {a : Addr} {ccd : Value} {cl : List (Str × Addr)} {outer : List Env} {A₀ : Around} {base h₀ : Heap} {L : Addr} {m : Str → Option Value} {s : Shared} {Q E : Value → Shared → Prop}
  {rest : List (Addr × Obj)} {g dg : Addr} {es : List DictEntry} {ng : Nat} {F R : Int} {uF uS uU : Tok} {nA fA : Addr} {cn' cf : Nat} {fv : List Value}
  (B : Below A₀ base outer h₀) (Fr0 : Fr h₀ L s.heap m) (X : (hd.heap_39 w.params).In h₀) (N : News h₀ L s.heap ((nA, listOf #[] cn') :: rest)) (Tp : Top p loose mean mg mb h₀) (hk : cs.kind = .function)
  (hF : 3 ≤ F ∧ F ≤ 6) (hR : 3 ≤ R ∧ R ≤ 6) (hS : F * R ≤ 36) (hS0 : 9 ≤ F * R)
  (hg : (g, instObj 53 dg) ∈ rest) (hdg : (dg, dictOf es ng) ∈ rest) (q0 : getL "files" es = some (some (.int F uF))) (q1 : getL "size" es = some (some (.int (F * R) uS))) (q2 : getL "full" es = some (some (.int (fullV F R) uU))) (q3 : getL "file_masks" es = some (some (.ref fA))) (m3 : (fA, listOf fv.toArray cf) ∈ rest) (i3 : IntsAre fv (fileMasks F R)) (q4 : getL "knight" es = some (some (.ref nA)))
  (f1 : ∀ p ∈ rest, p.1 ≠ nA)
  (hd : dp + 2 < recursionLimit) (hu : un + 16 < cLine)
  (hret : ∀ (va : List Value) (ca : Nat) (h' : Heap) (tk' : Nat), Fr h₀ L h' m → News h₀ L h' ((nA, listOf va.toArray ca) :: rest) → IntsAre va (knightTab F R) → Q .none { s with heap := h', toks := tk' }) :
  wpAny (model PySem.Challenge.rw_tg0014_01.row.toRowW.1 w) (ktrTop dp un gd cn cs L a ccd cl outer) (call (.ref 99) [.ref g]) Q E s :=
  knights_c_q ⟨⟨w, p, loose, mean, mg, mb, dp, un, gd, cn, cs, a, ccd, cl, outer, A₀, base, h₀, L, m, s, Q, E, rest, g, F, R, ⟨fun _ => [], [], [], [], []⟩, dg, es, ng⟩, uF, uS, uU, nA, fA, cn', cf, fv⟩ B Fr0 X N Tp hk hF hR hS hS0 hg hdg q0 q1 q2 q3 m3 i3 q4 f1 hd hu hret
end

section
set_option maxRecDepth 100000 in
set_option maxHeartbeats 8000000 in
def rays_c_P (w : World) (p : Program) (loose : List Str) (mean : ExcName → Option Value) (mg : Str → Option Value) (mb : Str → Option Value) (dp : Nat) (un : Nat) (gd : Option (List Code)) (cn : Str) (cs : Scope) (a : Addr) (ccd : Value) (cl : List (Str × Addr)) (outer : List Env) (A₀ : Around) (base : Heap) (h₀ : Heap) (L : Addr) (m : Str → Option Value) (s : Shared) (Q : Value → Shared → Prop) (E : Value → Shared → Prop) (rest : List (Addr × Obj)) (g : Addr) (dg : Addr) (es : List DictEntry) (ng : Nat) (F : Int) (R : Int) (uF : Tok) (uR : Tok) (uS : Tok) (uU : Tok) (rA : Addr) (fA : Addr) (mA : Addr) (cr : Nat) (fn : Nat) (mn : Nat) (fv : List Value) (mv : List Value) : Prop := ∀ (B : Below A₀ base outer h₀) (Fr0 : Fr h₀ L s.heap m) (X : (hd.heap_39 w.params).In h₀) (N : News h₀ L s.heap ((dg, dictOf es ng) :: (rA, listOf #[] cr) :: rest)) (Tp : Top p loose mean mg mb h₀) (hk : cs.kind = .function)
  (hF : 3 ≤ F ∧ F ≤ 6) (hR : 3 ≤ R ∧ R ≤ 6) (hS : F * R ≤ 36) (hS0 : 9 ≤ F * R)
  (hg : (g, instObj 53 dg) ∈ rest) (q0 : getL "files" es = some (some (.int F uF))) (q1 : getL "ranks" es = some (some (.int R uR))) (qs : getL "size" es = some (some (.int (F * R) uS))) (q2 : getL "full" es = some (some (.int (fullV F R) uU))) (q3 : getL "file_masks" es = some (some (.ref fA))) (m3 : (fA, listOf fv.toArray fn) ∈ rest) (i3 : IntsAre fv (fileMasks F R)) (q4 : getL "rank_masks" es = some (some (.ref mA))) (m4 : (mA, listOf mv.toArray mn) ∈ rest) (i4 : IntsAre mv (rankMasks F R))
  (q5 : getL "rays" es = some (some (.ref rA))) (q6 : (getL "king" es).isSome = true) (hel : es.length ≤ 100) (f1 : ∀ p ∈ rest, p.1 ≠ dg) (f2 : ∀ p ∈ rest, p.1 ≠ rA) (f3 : @Ne Nat dg rA)
  (hd : dp + 4 < recursionLimit) (hu : un + 32 < cLine)
  (hret : ∀ (es' : List DictEntry) (ng' : Nat) (refs : List Value) (nr : Nat) (kA : Addr) (kv : List Value) (kc : Nat) (rl : List (Addr × Obj)) (h' : Heap) (tk' : Nat), Fr h₀ L h' m → News h₀ L h' ((dg, dictOf es' ng') :: (rA, listOf refs.toArray nr) :: (kA, listOf kv.toArray kc) :: (rl ++ rest)) → (∀ j, j < 8 → ∃ (a : Addr) (v : List Value) (n : Nat), refs[j]? = some (.ref a) ∧ (a, listOf v.toArray n) ∈ rl ∧ IntsAre v (rayTab F R j)) → IntsAre kv (kingAt F R 8) → (∀ x : Str, x ≠ "king" → getL x es' = getL x es) → getL "king" es' = some (some (.ref kA)) → es'.length ≤ es.length + 1 → Q .none { s with heap := h', toks := tk' }),
  wpAny (model PySem.Challenge.rw_tg0014_01.row.toRowW.1 w) (ktrTop dp un gd cn cs L a ccd cl outer) (call (.ref 85) [.ref g]) Q E s
set_option maxRecDepth 100000 in
set_option maxHeartbeats 8000000 in
theorem rays_c_q : ∀ x : Ctx × (Tok) × (Tok) × (Tok) × (Tok) × (Addr) × (Addr) × (Addr) × (Nat) × (Nat) × (Nat) × (List Value) × (List Value), rays_c_P x.1.w x.1.p x.1.loose x.1.mean x.1.mg x.1.mb x.1.dp x.1.un x.1.gd x.1.cn x.1.cs x.1.a x.1.ccd x.1.cl x.1.outer x.1.A₀ x.1.base x.1.h₀ x.1.L x.1.m x.1.s x.1.Q x.1.E x.1.news x.1.g x.1.dg x.1.es x.1.ng x.1.F x.1.R x.2.1 x.2.2.1 x.2.2.2.1 x.2.2.2.2.1 x.2.2.2.2.2.1 x.2.2.2.2.2.2.1 x.2.2.2.2.2.2.2.1 x.2.2.2.2.2.2.2.2.1 x.2.2.2.2.2.2.2.2.2.1 x.2.2.2.2.2.2.2.2.2.2.1 x.2.2.2.2.2.2.2.2.2.2.2.1 x.2.2.2.2.2.2.2.2.2.2.2.2 := by
  refine eps_c ((?_ : ∀ w p loose mean mg mb dp un gd cn cs a ccd cl outer A₀ base h₀ L m s Q E rest g dg es ng F R uF uR uS uU rA fA mA cr fn mn fv mv, rays_c_P w p loose mean mg mb dp un gd cn cs a ccd cl outer A₀ base h₀ L m s Q E rest g dg es ng F R uF uR uS uU rA fA mA cr fn mn fv mv) _ _ _ _ _ _ _ _ _ _ _ _ _ _ _ _ _ _ _ _ _ _ _ _ _ _ _ _ _ _ _ _ _ _ _ _ _ _ _ _ _ _)
  intros w p loose mean mg mb dp un gd cn cs a ccd cl outer A₀ base h₀ L m s Q E rest g dg es ng F R uF uR uS uU rA fA mA cr fn mn fv mv B Fr0 X N Tp hk hF hR hS hS0 hg q0 q1 qs q2 q3 m3 i3 q4 m4 i4 q5 q6 hel f1 f2 f3 hd hu hret
  w_top off
  revert X; k_fill; intro X
  refine wpAny_call ?_
  k_dflt (refine' code_def ?k1 ?k2 ?k3 ?k4 ?k5 ?kA ?kF ?kK ?k6 ?k7 ?k8 ?k9 ?kB ?_ ?c2 ?c3 ?c4 ?c5; (case kA => exact rfl); (case kF => exact rfl); (case kK => assumption); (case k1 => k_asm); (case k2 => k_asm); (case k3 => k_asm); (case k4 => k_asm); (case k5 => k_asm); (case k6 => k_is); (case k7 => k_is); (case k8 => (first | exact room2 hd rfl | exact room1 hd rfl | exact room0 hd | ktr_room)); (case k9 => exact BindsTo.of_eq rfl); (case c5 => decide); (case kB => exact locs rfl); (case c2 => exact rfl); (case c3 => exact rfl); (case c4 => exact rfl); k_whole; refine eps3 ((?_ : All3 _) _ _ _); intros g' L' h' FG' F' N' B' X' T'; (try dsimp only))
  (repeat' (first | (with_reducible first | refine const_tk ?_ | refine and_tk ?_ | refine or_tk ?_ | refine ior_tk ?_ | refine add_tk ?_ | refine sub_tk ?_ | refine inv_tk ?_) | ((with_reducible show wpAny _ _ (getAttr (Value.ref _) _ _) _ _ _); k_dflt (refine' get_own ?k1 ?k2 ?k3 ?k4 ?k5 ?k6 ?k7 ?k8 ?k9 ?_; (case k1 => k_asm); (case k2 => k_asm); (case k3 => k_inst); (case k4 => k_is); (case k5 => k_is); (case k6 => k_is); (case k7 => k_is); (case k8 => first | (with_reducible assumption) | exact (getL_put_ne (by decide) _).trans (by with_reducible assumption) | exact getL_put_self _); (case k9 => k_handed); k_whole)) | ((with_reducible show wpAny _ _ (newList _) _ _ _); k_dflt (refine' newList_K ?k1 ?k2 ?_; (case k1 => k_asm); (case k2 => k_asm); k_whole); refine eps2 ((?_ : All2 _) _ _); intros l' h' F' N' l1; (try k_lt l1); (try k_sweep)) | ((with_reducible show wpAny _ _ (setAttr (Value.ref _) _ _) _ _ _); k_dflt (refine' set_dict ?k1 ?k2 ?k3 ?k4 ?k5 ?k6 ?k7 ?k8 ?k9 ?k10 ?k11 ?k12 ?k13 ?_; (case k1 => k_asm); (case k2 => k_asm); (case k3 => k_asm); (case k4 => k_inst); (case k5 => rfl); (case k6 => k_is); (case k7 => k_is); (case k8 => k_is); (case k9 => k_is); (case k10 => with_reducible assumption); (case k11 => rfl); (case k12 => k_upd); (case k13 => exact Nat.le_trans (putL_len _) (by omega))); refine eps1 ((?_ : All1 _) _); intros h9 F9 N9; (try dsimp only)) | ((with_reducible show wpAny _ _ (binaryOp Operator.Mult (Value.ref _) (Value.int _ _)) _ _ _); k_dflt (refine' KMa.mul ?F ?N ?l ?lo ?hi ?z ?e ?_; (case F => k_asm); (case N => k_asm); (case l => is_list); (case lo => omega); (case hi => omega); (case z => (simp only [List.length_cons, List.length_nil]; omega)); (case e => exact rfl)); refine eps2 ((?_ : All2 _) _ _); intros D9 h9 F9 N9 l9; (try k_lt l9); (try dsimp only)) | ((with_reducible show wpAny _ _ (call (Value.type _) [_]) _ _ _); k_dflt (refine' range1_led ?k1 ?k2 ?_; (case k1 => k_asm); (case k2 => k_asm)); refine eps6 ((?_ : All6 _) _ _ _ _ _ _); intros r9 h9 tk9 t9 u9 v9 F9 N9 l9; (try k_lt l9); (try dsimp only)) | ((with_reducible show wpAny _ _ (exec (PySem.Stmt.For ..) _) _ _ _); (with_reducible rename Fr _ _ _ _ => lF'); (with_unfolding_all refine' For_invVF lF' ?k1 ?k2 ?_; (case k1 => exact rfl); (case k2 => exact rfl); k_whole)) | ((with_reducible show wpAny _ _ (pyIter (Value.ref _)) _ _ _); refine Stop.out ?_) | (k_end; wrow_close) | walk1 | (dsimp only; walk1) | (leave1; (try dsimp only)) | fail "no step"))
  with_reducible rename News _ _ _ _ => N0
  have N1 := cb_drop N0 (fun p hp => List.Mem.tail _ hp)
  have hr0 := (N0 _ (List.Mem.head _)).1
  with_reducible rename (_ ∧ _ ∧ _ ∧ AllLt _ _) => lz9
  obtain ⟨-, l8, l7, l6⟩ := lz9
  refine exs3 (rays_start2 N1 (Nat.ne_of_gt l7) (fun p hp => Nat.ne_of_lt (allLt_mem l6 p hp)) (Nat.ne_of_lt l8)) ((?_ : All3 _) _ _ _); intros kA es' ng' hx0; obtain ⟨N2, hk1, hk2, hk3, hk4, hk5, hk6⟩ := hx0
  clear l8 l7 l6 N1
  refine Stop.mk ?_
  have w0 := (hk1 (Str.ofString "files") (by decide)).trans q0
  have w1 := (hk1 (Str.ofString "ranks") (by decide)).trans q1
  have ws := (hk1 (Str.ofString "size") (by decide)).trans qs
  have w2 := (hk1 (Str.ofString "full") (by decide)).trans q2
  have w3 := (hk1 (Str.ofString "file_masks") (by decide)).trans q3
  have w4 := (hk1 (Str.ofString "rank_masks") (by decide)).trans q4
  have w5 := (hk1 (Str.ofString "rays") (by decide)).trans q5
  have b1 : ∀ p ∈ (dg, dictOf es' ng') :: rest, p.1 ≠ rA := List.forall_mem_cons.mpr ⟨f3, f2⟩
  have b2 : ∀ p ∈ (dg, dictOf es' ng') :: rest, p.1 ≠ kA := List.forall_mem_cons.mpr ⟨hk5, hk4⟩
  k_dflt (refine iter_rangeUnr (n := 8) (by rfl) hr0 (by decide) (by decide) (by k_asm) N2 ?_)
  refine eps1 ((?_ : All1 _) _); intros I l
  k_dflt (refine range_rest_inv (RayInv g kA rA I ((dg, dictOf es' ng') :: rest) F R) ?_ ?_ _ _ (rayInv0 rfl (rep_ints _ _) b1 b2 (fun p hp => Nat.ne_of_lt (l p (List.Mem.tail _ (List.Mem.tail _ hp))))))
  · refine eps6 ((?_ : All6 _) _ _ _ _ _ _); intros i m1 news t h tk hi hex F1 N1
    revert F1 N1
    refine exs6 (hex) ((?_ : All6 _) _ _ _ _ _ _); intros m₁ refs nr kv kc rl hx0 F1 N1; obtain ⟨rfl, rfl, hrl, hkv, a1, a2, a3, hray⟩ := hx0
    (try clear hex)
    have lA : @LT.lt Nat _ rA I := l _ (List.Mem.head _)
    have lK : @LT.lt Nat _ kA I := l _ (List.Mem.tail _ (List.Mem.head _))
    refine exs1 ((⟨_, rfl⟩ : ∃ x, x = rl ++ (dg, dictOf es' ng') :: rest)) ((?_ : All1 _) _); intros rest2 hr2
    replace N1 := N1; rw [← hr2] at N1; replace a1 := a1; rw [← hr2] at a1; replace a2 := a2; rw [← hr2] at a2; replace a3 := a3; rw [← hr2] at a3
    have hsub : ∀ p ∈ rest, p ∈ rest2 := fun p hp => by rw [hr2]; exact List.mem_append_right _ (List.Mem.tail _ hp)
    have hg2 := hsub _ hg
    have hdg2 : (dg, dictOf es' ng') ∈ rest2 := by rw [hr2]; exact List.mem_append_right _ (List.Mem.head _)
    have m32 := hsub _ m3
    have m42 := hsub _ m4
    replace F1 := F1; rw [Int.zero_add] at F1
    dsimp only at F1 N1
    have hkl : kv.length = (F * R).toNat := hkv.length.trans (kingAt_len F R i)
    obtain ⟨sf1, sf2, sr1, sr2⟩ := stepF_small (d := (i : Int)) (by omega) (by omega)
    (repeat' (first | ((with_reducible show wpAny _ _ (call (Value.ref 64) _) _ _ _); k_dflt (refine' growing_c ?k1 ?k2 ?k3 ?k4 ?k5 ?k6 ?a1 ?a2 ?d ?u ?_; (case k1 => k_asm); (case k2 => k_asm); (case k3 => k_asm); (case k4 => k_asm); (case k5 => k_asm); (case k6 => first | exact rfl | assumption); (case a1 => (omega)); (case a2 => (omega)); (case d => (first | exact room2 hd rfl | exact room1 hd rfl | exact room0 hd | ktr_room)); (case u => (dsimp only [ktrTop, units_deeper]; first | exact hu | exact room2 hu rfl | exact room1 hu rfl | omega)); refine eps3 ((?_ : All3 _) _ _ _); intros t9 h9 tk9 F9 N9; (try dsimp only))) | ((with_reducible show wpAny _ _ (call (Value.ref 78) _) _ _ _); k_dflt (refine' inner_c ?k1 ?k2 ?k3 ?k4 ?k5 ?k6 ?x1 ?x2 ?hg ?hdg ?q0 ?q1 ?q2 ?q3 ?m3 ?i3 ?q4 ?m4 ?i4 ?d8 ?d ?u ?_; (case k1 => k_asm); (case k2 => k_asm); (case k3 => k_asm); (case k4 => k_asm); (case k5 => k_asm); (case k6 => first | exact rfl | assumption); (case hg => (first | (with_reducible assumption) | k_mem | exact (getL_put_ne (by decide) _).trans (by with_reducible assumption))); (case hdg => (first | (with_reducible assumption) | k_mem | exact (getL_put_ne (by decide) _).trans (by with_reducible assumption))); (case q0 => (first | (with_reducible assumption) | k_mem | exact (getL_put_ne (by decide) _).trans (by with_reducible assumption))); (case q1 => (first | (with_reducible assumption) | k_mem | exact (getL_put_ne (by decide) _).trans (by with_reducible assumption))); (case q2 => (first | (with_reducible assumption) | k_mem | exact (getL_put_ne (by decide) _).trans (by with_reducible assumption))); (case q3 => (first | (with_reducible assumption) | k_mem | exact (getL_put_ne (by decide) _).trans (by with_reducible assumption))); (case m3 => (first | (with_reducible assumption) | k_mem | exact (getL_put_ne (by decide) _).trans (by with_reducible assumption))); (case i3 => (first | (with_reducible assumption) | k_mem | exact (getL_put_ne (by decide) _).trans (by with_reducible assumption))); (case q4 => (first | (with_reducible assumption) | k_mem | exact (getL_put_ne (by decide) _).trans (by with_reducible assumption))); (case m4 => (first | (with_reducible assumption) | k_mem | exact (getL_put_ne (by decide) _).trans (by with_reducible assumption))); (case i4 => (first | (with_reducible assumption) | k_mem | exact (getL_put_ne (by decide) _).trans (by with_reducible assumption))); (case d8 => (omega)); (case x1 => assumption); (case x2 => assumption); (case d => (first | exact room2 hd rfl | exact room1 hd rfl | exact room0 hd | ktr_room)); (case u => (dsimp only [ktrTop, units_deeper]; first | exact hu | exact room2 hu rfl | exact room1 hu rfl | omega)); refine eps3 ((?_ : All3 _) _ _ _); intros t9 h9 tk9 F9 N9; (try dsimp only))) | (with_reducible first | refine const_tk ?_ | refine and_tk ?_ | refine or_tk ?_ | refine ior_tk ?_ | refine add_tk ?_ | refine sub_tk ?_ | refine inv_tk ?_) | ((with_reducible show wpAny _ _ (storeName _ _ _) _ _ _); k_dflt (refine' storeX_L ?sF ?sN ?_ ?sa ?sb; (case sF => k_asm); (case sN => k_asm); (case sa => rfl); (case sb => rfl); k_whole; refine eps1 ((?_ : All1 _) _); intros h' F' N'; (try k_sweep))) | ((with_reducible show wpAny _ _ (getAttr (Value.ref _) _ _) _ _ _); k_dflt (refine' get_own ?k1 ?k2 ?k3 ?k4 ?k5 ?k6 ?k7 ?k8 ?k9 ?_; (case k1 => k_asm); (case k2 => k_asm); (case k3 => k_inst); (case k4 => k_is); (case k5 => k_is); (case k6 => k_is); (case k7 => k_is); (case k8 => first | (with_reducible assumption) | exact (getL_put_ne (by decide) _).trans (by with_reducible assumption) | exact getL_put_self _); (case k9 => k_handed); k_whole)) | ((with_reducible show wpAny _ _ (newList _) _ _ _); k_dflt (refine' newList_K ?k1 ?k2 ?_; (case k1 => k_asm); (case k2 => k_asm); k_whole); refine eps2 ((?_ : All2 _) _ _); intros l' h' F' N' l1; (try k_lt l1); (try k_sweep)) | ((with_reducible show wpAny _ _ (binaryOp Operator.Mult (Value.ref _) (Value.int _ _)) _ _ _); k_dflt (refine' KMa.mul ?F ?N ?l ?lo ?hi ?z ?e ?_; (case F => k_asm); (case N => k_asm); (case l => is_list); (case lo => omega); (case hi => omega); (case z => (simp only [List.length_cons, List.length_nil]; omega)); (case e => exact rfl)); refine eps2 ((?_ : All2 _) _ _); intros D9 h9 F9 N9 l9; (try k_lt l9); (try dsimp only)) | ((with_reducible show wpAny _ _ (call (Value.type _) [_]) _ _ _); k_dflt (refine' range1_led ?k1 ?k2 ?_; (case k1 => k_asm); (case k2 => k_asm)); refine eps6 ((?_ : All6 _) _ _ _ _ _ _); intros r9 h9 tk9 t9 u9 v9 F9 N9 l9; (try k_lt l9); (try dsimp only)) | ((with_reducible show wpAny _ _ (call (Value.type _) [_, _, _]) _ _ _); k_dflt (refine' range3_led ?k1 ?k2 ?k3 ?k4 ?_; (case k1 => k_asm); (case k2 => k_asm); (case k3 => decide); (case k4 => exact PyProof.noPylong_small (by omega))); refine eps6 ((?_ : All6 _) _ _ _ _ _ _); intros r9 h9 tk9 t9 u9 v9 F9 N9 l9; (try k_lt l9); (try dsimp only)) | ((with_reducible show wpAny _ _ (exec (PySem.Stmt.For ..) _) _ _ _); (with_reducible rename Fr _ _ _ _ => lF'); (with_unfolding_all refine' For_invVF lF' ?k1 ?k2 ?_; (case k1 => exact rfl); (case k2 => exact rfl); k_whole)) | ((with_reducible show wpAny _ _ (subscriptTail _ _ (Value.ref 35) (Value.int _ _)) _ _ _); k_dflt (refine' stepF_item ?k1 ?k2 ?k3 ?k4 ?_ ?k5; (case k1 => k_asm); (case k2 => k_asm); (case k3 => (omega)); (case k4 => (omega)); (case k5 => (intro _; with_unfolding_all rfl))); refine eps1 ((?_ : All1 _) _); intros t9; delta At1; (try dsimp only)) | ((with_reducible show wpAny _ _ (subscriptTail _ _ (Value.ref 36) (Value.int _ _)) _ _ _); k_dflt (refine' stepR_item ?k1 ?k2 ?k3 ?k4 ?_ ?k5; (case k1 => k_asm); (case k2 => k_asm); (case k3 => (omega)); (case k4 => (omega)); (case k5 => (intro _; with_unfolding_all rfl))); refine eps1 ((?_ : All1 _) _); intros t9; delta At1; (try dsimp only)) | ((with_reducible show wpAny _ _ (pyIter (Value.ref _)) _ _ _); refine Stop.out ?_) | (k_end; wrow_close) | walk1 | (dsimp only; walk1) | (leave1; (try dsimp only)) | fail "no step"))
    · with_reducible rename News _ _ _ _ => N5
      have hr5 := (N5 _ (List.Mem.head _)).1
      have N6 := drop_b N5
      with_reducible rename (_ ∧ _ ∧ _ ∧ _ ∧ AllLt _ rest2) => lz5
      obtain ⟨-, lv1, lv2, lv3, lv4⟩ := lz5
      clear N5
      refine Stop.mk ?_
      k_dflt (refine kst_rangeD (σ := List Value × List Value) (n := (F * R - 1 - -1).toNat) (ledR _ I _ rA refs nr kA kc rest2) (fun _ => []) (fun _ => True) ["goal"] (fun pre c => IntsAre c.1 (pre.foldl (rayStep (innerV F R i) (deltaV F i)) (List.replicate (F * R).toNat 0, kingAt F R i)).1 ∧ IntsAre c.2 (pre.foldl (rayStep (innerV F R i) (deltaV F i)) (List.replicate (F * R).toNat 0, kingAt F R i)).2) (_, kv) (by rfl) hr5 (small_FD hS0 hS) (rangeSize_downNat _ _) (by k_asm) N6 trivial (fun _ h => nomatch h) ⟨rep_ints _ _, hkv⟩ ?_ ?_)
      · refine cur2 ?_; refine eps9 ((?_ : All9 _) _ _ _ _ _ _ _ _ _); intros rvs kvs pre k t u h tk own hk hlt hoff hf hx0 F'' N''; obtain ⟨hp1, hp2⟩ := hx0
        have hlen := rayFold_len (innerV F R i) (deltaV F i) pre (List.replicate (F * R).toNat 0, kingAt F R i)
        refine exs2 ((⟨_, _, rfl⟩ : ∃ X Y, List.foldl (rayStep (innerV F R i) (deltaV F i)) (List.replicate (F * R).toNat 0, kingAt F R i) pre = (X, Y))) ((?_ : All2 _) _ _); intros X1 Y1 hst
        replace hp1 := hp1; rw [hst] at hp1; replace hp2 := hp2; rw [hst] at hp2; replace hlen := hlen; rw [hst] at hlen
        replace hlen := hlen; simp only [List.length_replicate, kingAt_len] at hlen
        obtain ⟨hk0, hk1⟩ := turn_down hS0 hk hlt
        clear hk hlt
        have hgo := goals_in hF hR (d := (i : Int)) (q := k) (by omega) (by omega) hk0 hk1
        unfold deltaV at hgo
        have hX : (X1.length : Int) = F * R := by rw [hlen.1]; exact Int.toNat_of_nonneg (Int.le_trans (by decide) hS0)
        have hY : (Y1.length : Int) = F * R := by rw [hlen.2]; exact Int.toNat_of_nonneg (Int.le_trans (by decide) hS0)
        clear hlen
        replace N'' := N''; simp only [List.cons_append] at N''
        have hg3 := List.mem_append_left own hg2
        have hdg3 := List.mem_append_left own hdg2
        have c1 : ∀ p ∈ rest2 ++ own, p.1 ≠ kA := fun p hp => (List.mem_append.mp hp).elim (a2 p) fun h => hoff p h kA (List.Mem.tail _ (List.Mem.tail _ (List.Mem.tail _ (List.Mem.head _))))
        have c2 : ∀ p ∈ rest2 ++ own, p.1 ≠ _ := fun p hp => (List.mem_append.mp hp).elim (fun h => Nat.ne_of_lt (allLt_mem lv4 p h)) fun h => hoff p h _ (List.Mem.head _)
        dsimp only at hp1 hp2 F'' N''
        (try dsimp only)
        (repeat' (first | (with_reducible first | refine const_tk ?_ | refine and_tk ?_ | refine or_tk ?_ | refine ior_tk ?_ | refine add_tk ?_ | refine sub_tk ?_ | refine inv_tk ?_) | ((with_reducible show wpAny _ _ (storeName _ _ _) _ _ _); k_dflt (refine' storeX_L ?sF ?sN ?_ ?sa ?sb; (case sF => k_asm); (case sN => k_asm); (case sa => rfl); (case sb => rfl); k_whole; refine eps1 ((?_ : All1 _) _); intros h' F' N'; (try k_sweep))) | ((with_reducible show wpAny _ _ (getAttr (Value.ref _) _ _) _ _ _); k_dflt (refine' get_own ?k1 ?k2 ?k3 ?k4 ?k5 ?k6 ?k7 ?k8 ?k9 ?_; (case k1 => k_asm); (case k2 => k_asm); (case k3 => k_inst); (case k4 => k_is); (case k5 => k_is); (case k6 => k_is); (case k7 => k_is); (case k8 => first | (with_reducible assumption) | exact (getL_put_ne (by decide) _).trans (by with_reducible assumption) | exact getL_put_self _); (case k9 => k_handed); k_whole)) | ((with_reducible show wpAny _ _ (subscriptTail _ _ (Value.ref _) (Value.int _ _)) _ _ _); k_dflt (refine' ksa_sub ?k1 ?k2 ?k3 ?k4 ?k5 ?k6 ?_ ?k7; (case k1 => k_asm); (case k2 => k_mem); (case k3 => with_reducible assumption); (case k4 => (first | exact lt_len (by with_reducible assumption) (by first | with_reducible assumption | exact And.right (by with_reducible assumption) | exact in_hi (by with_reducible assumption) (by with_reducible assumption)) | exact lt63 (by with_reducible assumption) (by first | with_reducible assumption | exact And.right (by with_reducible assumption) | exact in_hi (by with_reducible assumption) (by with_reducible assumption)) | exact in_lo (by with_reducible assumption) (by with_reducible assumption))); (case k5 => (first | exact lt_len (by with_reducible assumption) (by first | with_reducible assumption | exact And.right (by with_reducible assumption) | exact in_hi (by with_reducible assumption) (by with_reducible assumption)) | exact lt63 (by with_reducible assumption) (by first | with_reducible assumption | exact And.right (by with_reducible assumption) | exact in_hi (by with_reducible assumption) (by with_reducible assumption)) | exact in_lo (by with_reducible assumption) (by with_reducible assumption))); (case k6 => (first | exact lt_len (by with_reducible assumption) (by first | with_reducible assumption | exact And.right (by with_reducible assumption) | exact in_hi (by with_reducible assumption) (by with_reducible assumption)) | exact lt63 (by with_reducible assumption) (by first | with_reducible assumption | exact And.right (by with_reducible assumption) | exact in_hi (by with_reducible assumption) (by with_reducible assumption)) | exact in_lo (by with_reducible assumption) (by with_reducible assumption))); (case k7 => with_unfolding_all rfl); k_whole); refine eps1 ((?_ : All1 _) _); intros t9; delta At1; (try dsimp only)) | ((with_reducible refine shr_tk ?kb1 ?_); (case kb1 => (with_reducible assumption))) | ((with_reducible refine shl_tk ?a ?b ?c ?_); (case a => (first | exact le6 (by with_reducible assumption) (by first | with_reducible assumption | exact And.right (by with_reducible assumption) | exact in_hi (by with_reducible assumption) (by with_reducible assumption)) | exact in_lo (by with_reducible assumption) (by with_reducible assumption))); (case b => (first | exact le6 (by with_reducible assumption) (by first | with_reducible assumption | exact And.right (by with_reducible assumption) | exact in_hi (by with_reducible assumption) (by with_reducible assumption)) | exact in_lo (by with_reducible assumption) (by with_reducible assumption))); (case c => first | decide | with_reducible assumption)) | ((with_reducible show wpAny _ _ (setItem (Value.ref _) (Value.int _ _) (Value.int _ _)) _ _ _); k_dflt (refine' ksa_set ?k1 ?k2 ?k3 ?k4 ?k5 ?k6 ?k7 ?_; (case k1 => k_asm); (case k2 => k_asm); (case k3 => k_upd); (case k4 => with_reducible assumption); (case k5 => (first | with_reducible assumption | exact lt_len (by with_reducible assumption) (by first | with_reducible assumption | exact And.right (by with_reducible assumption) | exact in_hi (by with_reducible assumption) (by with_reducible assumption)) | exact lt63 (by with_reducible assumption) (by first | with_reducible assumption | exact And.right (by with_reducible assumption) | exact in_hi (by with_reducible assumption) (by with_reducible assumption)))); (case k6 => (first | with_reducible assumption | exact lt_len (by with_reducible assumption) (by first | with_reducible assumption | exact And.right (by with_reducible assumption) | exact in_hi (by with_reducible assumption) (by with_reducible assumption)) | exact lt63 (by with_reducible assumption) (by first | with_reducible assumption | exact And.right (by with_reducible assumption) | exact in_hi (by with_reducible assumption) (by with_reducible assumption)))); (case k7 => (first | with_reducible assumption | exact lt_len (by with_reducible assumption) (by first | with_reducible assumption | exact And.right (by with_reducible assumption) | exact in_hi (by with_reducible assumption) (by with_reducible assumption)) | exact lt63 (by with_reducible assumption) (by first | with_reducible assumption | exact And.right (by with_reducible assumption) | exact in_hi (by with_reducible assumption) (by with_reducible assumption)))); k_whole); refine eps1 ((?_ : All1 _) _); intros h' F' N' hi' hl' hs'; (try k_sweep)) | ((with_reducible show InvEndN ..); refine Stop.out ?_) | (k_end; wrow_close) | walk1 | (dsimp only; walk1) | (leave1; (try dsimp only)) | fail "no step"))
        · with_reducible rename (Builtin.bitAnd _ 1 ≠ 0) => hb
          obtain ⟨hgo1, hgo2⟩ := hgo hb
          (repeat' (first | (k_end; wrow_close) | walk1 | (dsimp only; walk1) | (leave1; (try dsimp only)) | fail "no step"))
          with_reducible rename News _ _ _ _ => N9
          refine kst_end (rvs.set k.toNat _, kvs.set k.toNat _) (by k_asm) N9 (fun p hp => List.mem_append_left own hp) (fun p hp => List.Mem.tail _ (List.Mem.tail _ (List.Mem.tail _ (List.Mem.tail _ (List.mem_append_right _ hp))))) rfl trivial (fun _ h => nomatch h) ?_ ?_
          · intro z hz hps hs
            simp only [if_neg (not_stored hs (y := "goal") (by decide)), if_neg hz]
            exact same1 hs
          · rw [List.foldl_append, hst, List.foldl_cons, List.foldl_nil]
            unfold rayStep
            rw [if_neg hb]
            unfold deltaV
            exact ⟨by with_reducible assumption, by with_reducible assumption⟩
        · with_reducible rename (Builtin.bitAnd _ 1 = 0) => hb
          with_reducible rename News _ _ _ _ => N9
          refine kst_end (rvs, kvs) (by k_asm) N9 (fun p hp => List.mem_append_left own hp) (fun p hp => List.Mem.tail _ (List.Mem.tail _ (List.Mem.tail _ (List.Mem.tail _ (List.mem_append_right _ hp))))) rfl trivial (fun _ h => nomatch h) ?_ ?_
          · intro z hz hps hs
            simp only [if_neg hz]
            exact same1 hs
          · rw [List.foldl_append, hst, List.foldl_cons, List.foldl_nil]
            unfold rayStep
            rw [if_pos hb]
            exact ⟨hp1, hp2⟩
      · refine cur2 ?_; refine eps5 ((?_ : All5 _) _ _ _ _ _); intros rvs kvs u h tk hf hx0 F'' N''; obtain ⟨hp1, hp2⟩ := hx0
        dsimp only at hp1 hp2 F'' N''
        (try dsimp only)
        (repeat' (first | ((with_reducible show wpAny _ _ (getAttr (Value.ref _) _ _) _ _ _); k_dflt (refine' get_own ?k1 ?k2 ?k3 ?k4 ?k5 ?k6 ?k7 ?k8 ?k9 ?_; (case k1 => k_asm); (case k2 => k_asm); (case k3 => k_inst); (case k4 => k_is); (case k5 => k_is); (case k6 => k_is); (case k7 => k_is); (case k8 => first | (with_reducible assumption) | exact (getL_put_ne (by decide) _).trans (by with_reducible assumption) | exact getL_put_self _); (case k9 => k_handed); k_whole)) | ((with_reducible show wpAny _ _ (call (Value.builtin _) [Value.ref _, _]) _ _ _); k_dflt (refine' append_K ?k1 ?k2 ?k3 ?_ ?z; (case k1 => k_asm); (case k2 => k_asm); (case k3 => k_upd); (case z => (rw [PySem.sizeLine_eq, List.size_toArray]; omega))); refine eps1 ((?_ : All1 _) _); intros h9 F9 N9; (try dsimp only)) | ((with_reducible show UnrEnd ..); refine Stop.out ?_) | (k_end; wrow_close) | walk1 | (dsimp only; walk1) | (leave1; (try dsimp only)) | fail "no step"))
        with_reducible rename News _ _ _ _ => N9
        replace N9 := N9; simp only [List.push_toArray] at N9
        with_reducible rename (growing _ = _) => hgr
        obtain ⟨hq1, hq2⟩ := turn_end (orderV_down hgr) hp1 hp2
        subst hr2
        exact unr_rays (by k_asm) N9 (Nat.ne_of_gt lv1) (Nat.ne_of_lt lA) (Nat.ne_of_lt lK) a3 (rayInvS rfl hrl hq2 hq1 hray a1 a2 a3 lv2 lv3 lv1)
    · with_reducible rename News _ _ _ _ => N5
      have hr5 := (N5 _ (List.Mem.head _)).1
      have N6 := drop_a N5
      with_reducible rename (_ ∧ _ ∧ _ ∧ _ ∧ AllLt _ rest2) => lz5
      obtain ⟨-, lv1, lv2, lv3, lv4⟩ := lz5
      clear N5
      refine Stop.mk ?_
      k_dflt (refine kst_range (σ := List Value × List Value) (n := (F * R - 0).toNat) (ledR _ I _ rA refs nr kA kc rest2) (fun _ => []) (fun _ => True) ["goal"] (fun pre c => IntsAre c.1 (pre.foldl (rayStep (innerV F R i) (deltaV F i)) (List.replicate (F * R).toNat 0, kingAt F R i)).1 ∧ IntsAre c.2 (pre.foldl (rayStep (innerV F R i) (deltaV F i)) (List.replicate (F * R).toNat 0, kingAt F R i)).2) (_, kv) (by rfl) hr5 (small_FR (Int.le_trans (by decide) hS0) hS) (rangeSize_nat _ _) (by k_asm) N6 trivial (fun _ h => nomatch h) ⟨rep_ints _ _, hkv⟩ ?_ ?_)
      · refine cur2 ?_; refine eps9 ((?_ : All9 _) _ _ _ _ _ _ _ _ _); intros rvs kvs pre k t u h tk own hk hlt hoff hf hx0 F'' N''; obtain ⟨hp1, hp2⟩ := hx0
        have hlen := rayFold_len (innerV F R i) (deltaV F i) pre (List.replicate (F * R).toNat 0, kingAt F R i)
        refine exs2 ((⟨_, _, rfl⟩ : ∃ X Y, List.foldl (rayStep (innerV F R i) (deltaV F i)) (List.replicate (F * R).toNat 0, kingAt F R i) pre = (X, Y))) ((?_ : All2 _) _ _); intros X1 Y1 hst
        replace hp1 := hp1; rw [hst] at hp1; replace hp2 := hp2; rw [hst] at hp2; replace hlen := hlen; rw [hst] at hlen
        replace hlen := hlen; simp only [List.length_replicate, kingAt_len] at hlen
        obtain ⟨hk0, hk1⟩ := turn_up (Int.le_trans (by decide) hS0) hk hlt
        clear hk hlt
        have hgo := goals_in hF hR (d := (i : Int)) (q := k) (by omega) (by omega) hk0 hk1
        unfold deltaV at hgo
        have hX : (X1.length : Int) = F * R := by rw [hlen.1]; exact Int.toNat_of_nonneg (Int.le_trans (by decide) hS0)
        have hY : (Y1.length : Int) = F * R := by rw [hlen.2]; exact Int.toNat_of_nonneg (Int.le_trans (by decide) hS0)
        clear hlen
        replace N'' := N''; simp only [List.cons_append] at N''
        have hg3 := List.mem_append_left own hg2
        have hdg3 := List.mem_append_left own hdg2
        have c1 : ∀ p ∈ rest2 ++ own, p.1 ≠ kA := fun p hp => (List.mem_append.mp hp).elim (a2 p) fun h => hoff p h kA (List.Mem.tail _ (List.Mem.tail _ (List.Mem.tail _ (List.Mem.head _))))
        have c2 : ∀ p ∈ rest2 ++ own, p.1 ≠ _ := fun p hp => (List.mem_append.mp hp).elim (fun h => Nat.ne_of_lt (allLt_mem lv4 p h)) fun h => hoff p h _ (List.Mem.head _)
        dsimp only at hp1 hp2 F'' N''
        (try dsimp only)
        (repeat' (first | (with_reducible first | refine const_tk ?_ | refine and_tk ?_ | refine or_tk ?_ | refine ior_tk ?_ | refine add_tk ?_ | refine sub_tk ?_ | refine inv_tk ?_) | ((with_reducible show wpAny _ _ (storeName _ _ _) _ _ _); k_dflt (refine' storeX_L ?sF ?sN ?_ ?sa ?sb; (case sF => k_asm); (case sN => k_asm); (case sa => rfl); (case sb => rfl); k_whole; refine eps1 ((?_ : All1 _) _); intros h' F' N'; (try k_sweep))) | ((with_reducible show wpAny _ _ (getAttr (Value.ref _) _ _) _ _ _); k_dflt (refine' get_own ?k1 ?k2 ?k3 ?k4 ?k5 ?k6 ?k7 ?k8 ?k9 ?_; (case k1 => k_asm); (case k2 => k_asm); (case k3 => k_inst); (case k4 => k_is); (case k5 => k_is); (case k6 => k_is); (case k7 => k_is); (case k8 => first | (with_reducible assumption) | exact (getL_put_ne (by decide) _).trans (by with_reducible assumption) | exact getL_put_self _); (case k9 => k_handed); k_whole)) | ((with_reducible show wpAny _ _ (subscriptTail _ _ (Value.ref _) (Value.int _ _)) _ _ _); k_dflt (refine' ksa_sub ?k1 ?k2 ?k3 ?k4 ?k5 ?k6 ?_ ?k7; (case k1 => k_asm); (case k2 => k_mem); (case k3 => with_reducible assumption); (case k4 => (first | exact lt_len (by with_reducible assumption) (by first | with_reducible assumption | exact And.right (by with_reducible assumption) | exact in_hi (by with_reducible assumption) (by with_reducible assumption)) | exact lt63 (by with_reducible assumption) (by first | with_reducible assumption | exact And.right (by with_reducible assumption) | exact in_hi (by with_reducible assumption) (by with_reducible assumption)) | exact in_lo (by with_reducible assumption) (by with_reducible assumption))); (case k5 => (first | exact lt_len (by with_reducible assumption) (by first | with_reducible assumption | exact And.right (by with_reducible assumption) | exact in_hi (by with_reducible assumption) (by with_reducible assumption)) | exact lt63 (by with_reducible assumption) (by first | with_reducible assumption | exact And.right (by with_reducible assumption) | exact in_hi (by with_reducible assumption) (by with_reducible assumption)) | exact in_lo (by with_reducible assumption) (by with_reducible assumption))); (case k6 => (first | exact lt_len (by with_reducible assumption) (by first | with_reducible assumption | exact And.right (by with_reducible assumption) | exact in_hi (by with_reducible assumption) (by with_reducible assumption)) | exact lt63 (by with_reducible assumption) (by first | with_reducible assumption | exact And.right (by with_reducible assumption) | exact in_hi (by with_reducible assumption) (by with_reducible assumption)) | exact in_lo (by with_reducible assumption) (by with_reducible assumption))); (case k7 => with_unfolding_all rfl); k_whole); refine eps1 ((?_ : All1 _) _); intros t9; delta At1; (try dsimp only)) | ((with_reducible refine shr_tk ?kb1 ?_); (case kb1 => (with_reducible assumption))) | ((with_reducible refine shl_tk ?a ?b ?c ?_); (case a => (first | exact le6 (by with_reducible assumption) (by first | with_reducible assumption | exact And.right (by with_reducible assumption) | exact in_hi (by with_reducible assumption) (by with_reducible assumption)) | exact in_lo (by with_reducible assumption) (by with_reducible assumption))); (case b => (first | exact le6 (by with_reducible assumption) (by first | with_reducible assumption | exact And.right (by with_reducible assumption) | exact in_hi (by with_reducible assumption) (by with_reducible assumption)) | exact in_lo (by with_reducible assumption) (by with_reducible assumption))); (case c => first | decide | with_reducible assumption)) | ((with_reducible show wpAny _ _ (setItem (Value.ref _) (Value.int _ _) (Value.int _ _)) _ _ _); k_dflt (refine' ksa_set ?k1 ?k2 ?k3 ?k4 ?k5 ?k6 ?k7 ?_; (case k1 => k_asm); (case k2 => k_asm); (case k3 => k_upd); (case k4 => with_reducible assumption); (case k5 => (first | with_reducible assumption | exact lt_len (by with_reducible assumption) (by first | with_reducible assumption | exact And.right (by with_reducible assumption) | exact in_hi (by with_reducible assumption) (by with_reducible assumption)) | exact lt63 (by with_reducible assumption) (by first | with_reducible assumption | exact And.right (by with_reducible assumption) | exact in_hi (by with_reducible assumption) (by with_reducible assumption)))); (case k6 => (first | with_reducible assumption | exact lt_len (by with_reducible assumption) (by first | with_reducible assumption | exact And.right (by with_reducible assumption) | exact in_hi (by with_reducible assumption) (by with_reducible assumption)) | exact lt63 (by with_reducible assumption) (by first | with_reducible assumption | exact And.right (by with_reducible assumption) | exact in_hi (by with_reducible assumption) (by with_reducible assumption)))); (case k7 => (first | with_reducible assumption | exact lt_len (by with_reducible assumption) (by first | with_reducible assumption | exact And.right (by with_reducible assumption) | exact in_hi (by with_reducible assumption) (by with_reducible assumption)) | exact lt63 (by with_reducible assumption) (by first | with_reducible assumption | exact And.right (by with_reducible assumption) | exact in_hi (by with_reducible assumption) (by with_reducible assumption)))); k_whole); refine eps1 ((?_ : All1 _) _); intros h' F' N' hi' hl' hs'; (try k_sweep)) | ((with_reducible show InvEndN ..); refine Stop.out ?_) | (k_end; wrow_close) | walk1 | (dsimp only; walk1) | (leave1; (try dsimp only)) | fail "no step"))
        · with_reducible rename (Builtin.bitAnd _ 1 ≠ 0) => hb
          obtain ⟨hgo1, hgo2⟩ := hgo hb
          (repeat' (first | (k_end; wrow_close) | walk1 | (dsimp only; walk1) | (leave1; (try dsimp only)) | fail "no step"))
          with_reducible rename News _ _ _ _ => N9
          refine kst_end (rvs.set k.toNat _, kvs.set k.toNat _) (by k_asm) N9 (fun p hp => List.mem_append_left own hp) (fun p hp => List.Mem.tail _ (List.Mem.tail _ (List.Mem.tail _ (List.Mem.tail _ (List.mem_append_right _ hp))))) rfl trivial (fun _ h => nomatch h) ?_ ?_
          · intro z hz hps hs
            simp only [if_neg (not_stored hs (y := "goal") (by decide)), if_neg hz]
            exact same1 hs
          · rw [List.foldl_append, hst, List.foldl_cons, List.foldl_nil]
            unfold rayStep
            rw [if_neg hb]
            unfold deltaV
            exact ⟨by with_reducible assumption, by with_reducible assumption⟩
        · with_reducible rename (Builtin.bitAnd _ 1 = 0) => hb
          with_reducible rename News _ _ _ _ => N9
          refine kst_end (rvs, kvs) (by k_asm) N9 (fun p hp => List.mem_append_left own hp) (fun p hp => List.Mem.tail _ (List.Mem.tail _ (List.Mem.tail _ (List.Mem.tail _ (List.mem_append_right _ hp))))) rfl trivial (fun _ h => nomatch h) ?_ ?_
          · intro z hz hps hs
            simp only [if_neg hz]
            exact same1 hs
          · rw [List.foldl_append, hst, List.foldl_cons, List.foldl_nil]
            unfold rayStep
            rw [if_pos hb]
            exact ⟨hp1, hp2⟩
      · refine cur2 ?_; refine eps5 ((?_ : All5 _) _ _ _ _ _); intros rvs kvs u h tk hf hx0 F'' N''; obtain ⟨hp1, hp2⟩ := hx0
        dsimp only at hp1 hp2 F'' N''
        (try dsimp only)
        (repeat' (first | ((with_reducible show wpAny _ _ (getAttr (Value.ref _) _ _) _ _ _); k_dflt (refine' get_own ?k1 ?k2 ?k3 ?k4 ?k5 ?k6 ?k7 ?k8 ?k9 ?_; (case k1 => k_asm); (case k2 => k_asm); (case k3 => k_inst); (case k4 => k_is); (case k5 => k_is); (case k6 => k_is); (case k7 => k_is); (case k8 => first | (with_reducible assumption) | exact (getL_put_ne (by decide) _).trans (by with_reducible assumption) | exact getL_put_self _); (case k9 => k_handed); k_whole)) | ((with_reducible show wpAny _ _ (call (Value.builtin _) [Value.ref _, _]) _ _ _); k_dflt (refine' append_K ?k1 ?k2 ?k3 ?_ ?z; (case k1 => k_asm); (case k2 => k_asm); (case k3 => k_upd); (case z => (rw [PySem.sizeLine_eq, List.size_toArray]; omega))); refine eps1 ((?_ : All1 _) _); intros h9 F9 N9; (try dsimp only)) | ((with_reducible show UnrEnd ..); refine Stop.out ?_) | (k_end; wrow_close) | walk1 | (dsimp only; walk1) | (leave1; (try dsimp only)) | fail "no step"))
        with_reducible rename News _ _ _ _ => N9
        replace N9 := N9; simp only [List.push_toArray] at N9
        with_reducible rename (growing _ = _) => hgr
        obtain ⟨hq1, hq2⟩ := turn_end (orderV_up hgr) hp1 hp2
        subst hr2
        exact unr_rays (by k_asm) N9 (Nat.ne_of_gt lv1) (Nat.ne_of_lt lA) (Nat.ne_of_lt lK) a3 (rayInvS rfl hrl hq2 hq1 hray a1 a2 a3 lv2 lv3 lv1)
  · refine eps4 ((?_ : All4 _) _ _ _ _); intros m1 news h tk hex F1 N1
    revert F1 N1
    refine exs6 (hex) ((?_ : All6 _) _ _ _ _ _ _); intros m₁ refs nr kv kc rl hx0 F1 N1; obtain ⟨rfl, rfl, hrl, hkv, a1, a2, a3, hray⟩ := hx0
    (try clear hex)
    have N2 := rays_out N1
    clear N1
    (try dsimp only at F1 N2)
    (try dsimp only)
    (repeat' (first | (k_end; wrow_close) | walk1 | (dsimp only; walk1) | (leave1; (try dsimp only)) | fail "no step"))
    exact hret es' ng' refs nr kA kv kc rl _ _ (by k_asm) (by k_asm) hray hkv hk1 hk2 hk6
theorem rays_c {w : World} {p : Program} {loose : List Str} {mean : ExcName → Option Value} {mg mb : Str → Option Value}
  {dp un : Nat} {gd : Option (List Code)} {cn : Str} {cs : Scope} {a : Addr} {ccd : Value} {cl : List (Str × Addr)} {outer : List Env} {A₀ : Around} {base h₀ : Heap} {L : Addr} {m : Str → Option Value} {s : Shared} {Q E : Value → Shared → Prop}
  {rest : List (Addr × Obj)} {g dg : Addr} {es : List DictEntry} {ng : Nat} {F R : Int} {uF uR uS uU : Tok} {rA fA mA : Addr} {cr fn mn : Nat} {fv mv : List Value}
  (B : Below A₀ base outer h₀) (Fr0 : Fr h₀ L s.heap m) (X : (hd.heap_39 w.params).In h₀) (N : News h₀ L s.heap ((dg, dictOf es ng) :: (rA, listOf #[] cr) :: rest)) (Tp : Top p loose mean mg mb h₀) (hk : cs.kind = .function)
  (hF : 3 ≤ F ∧ F ≤ 6) (hR : 3 ≤ R ∧ R ≤ 6) (hS : F * R ≤ 36) (hS0 : 9 ≤ F * R)
  (hg : (g, instObj 53 dg) ∈ rest) (q0 : getL "files" es = some (some (.int F uF))) (q1 : getL "ranks" es = some (some (.int R uR))) (qs : getL "size" es = some (some (.int (F * R) uS))) (q2 : getL "full" es = some (some (.int (fullV F R) uU))) (q3 : getL "file_masks" es = some (some (.ref fA))) (m3 : (fA, listOf fv.toArray fn) ∈ rest) (i3 : IntsAre fv (fileMasks F R)) (q4 : getL "rank_masks" es = some (some (.ref mA))) (m4 : (mA, listOf mv.toArray mn) ∈ rest) (i4 : IntsAre mv (rankMasks F R))
  (q5 : getL "rays" es = some (some (.ref rA))) (q6 : (getL "king" es).isSome = true) (hel : es.length ≤ 100) (f1 : ∀ p ∈ rest, p.1 ≠ dg) (f2 : ∀ p ∈ rest, p.1 ≠ rA) (f3 : @Ne Nat dg rA)
  (hd : dp + 4 < recursionLimit) (hu : un + 32 < cLine)
  (hret : ∀ (es' : List DictEntry) (ng' : Nat) (refs : List Value) (nr : Nat) (kA : Addr) (kv : List Value) (kc : Nat) (rl : List (Addr × Obj)) (h' : Heap) (tk' : Nat), Fr h₀ L h' m → News h₀ L h' ((dg, dictOf es' ng') :: (rA, listOf refs.toArray nr) :: (kA, listOf kv.toArray kc) :: (rl ++ rest)) → (∀ j, j < 8 → ∃ (a : Addr) (v : List Value) (n : Nat), refs[j]? = some (.ref a) ∧ (a, listOf v.toArray n) ∈ rl ∧ IntsAre v (rayTab F R j)) → IntsAre kv (kingAt F R 8) → (∀ x : Str, x ≠ "king" → getL x es' = getL x es) → getL "king" es' = some (some (.ref kA)) → es'.length ≤ es.length + 1 → Q .none { s with heap := h', toks := tk' }) :
  wpAny (model PySem.Challenge.rw_tg0014_01.row.toRowW.1 w) (ktrTop dp un gd cn cs L a ccd cl outer) (call (.ref 85) [.ref g]) Q E s :=
  rays_c_q ⟨⟨w, p, loose, mean, mg, mb, dp, un, gd, cn, cs, a, ccd, cl, outer, A₀, base, h₀, L, m, s, Q, E, rest, g, F, R, ⟨fun _ => [], [], [], [], []⟩, dg, es, ng⟩, uF, uR, uS, uU, rA, fA, mA, cr, fn, mn, fv, mv⟩ B Fr0 X N Tp hk hF hR hS hS0 hg q0 q1 qs q2 q3 m3 i3 q4 m4 i4 q5 q6 hel f1 f2 f3 hd hu hret
end


def Solid (p : Addr × Obj) : Prop := (∀ c, p.2 ≠ listOf #[] c) ∧ ∀ es n, p.2 ≠ dictOf es n
theorem off_obj {h₀ h : Heap} {L : Addr} {news : List (Addr × Obj)} {a : Addr} {o : Obj} {p : Addr × Obj} (N : News h₀ L h news) (ha : (a, o) ∈ news) (hp : p ∈ news) (hne : p.2 ≠ o) : p.1 ≠ a := by
  intro e
  have h1 := (N _ ha).1
  have h2 := (N _ hp).1
  rw [e] at h2
  exact hne (Option.some.inj (h2.symm.trans h1))
theorem list_dict (v : Array Value) (n : Nat) (es : List DictEntry) (k : Nat) : listOf v n ≠ dictOf es k := fun h => by
  have := congrArg Obj.cls h
  revert this
  show ¬ (Value.type "list" = Value.type "dict")
  intro h
  exact absurd (Value.type.inj h) (by decide)
theorem inst_solid {x : Addr} {c d : Addr} : Solid (x, instObj c d) :=
  ⟨fun n h => (nomatch (congrArg Obj.cls h : (Value.ref _ : Value) = Value.type "list")), fun es n h => (nomatch (congrArg Obj.cls h : (Value.ref _ : Value) = Value.type "dict"))⟩
theorem list_solid {x : Addr} {v : Array Value} {n : Nat} (h : v ≠ #[]) : Solid (x, listOf v n) :=
  ⟨fun c e => h (by have h3 : (listOf v n).data = (listOf #[] c).data := congrArg Obj.data e; injection h3), fun es k => list_dict v n es k⟩
theorem ints_solid {x : Addr} {v : List Value} {W : List Int} {n : Nat} (h : IntsAre v W) (hl : 1 ≤ W.length) : Solid (x, listOf v.toArray n) := by
  refine list_solid fun e => ?_
  have h1 := h.length
  have h2 : v = [] := by simpa using e
  rw [h2] at h1
  rw [← h1] at hl
  exact absurd hl (by decide)
theorem offS {h₀ h : Heap} {L : Addr} {news S : List (Addr × Obj)} {a : Addr} {c : Nat} (N : News h₀ L h news) (ha : (a, listOf #[] c) ∈ news) (hs : ∀ p ∈ S, p ∈ news) (hS : ∀ p ∈ S, Solid p) : ∀ p ∈ S, p.1 ≠ a :=
  fun p hp => off_obj N ha (hs p hp) ((hS p hp).1 c)
theorem offDS {h₀ h : Heap} {L : Addr} {news S : List (Addr × Obj)} {d : Addr} {es : List DictEntry} {n : Nat} (N : News h₀ L h news) (hd : (d, dictOf es n) ∈ news) (hs : ∀ p ∈ S, p ∈ news) (hS : ∀ p ∈ S, Solid p) : ∀ p ∈ S, p.1 ≠ d :=
  fun p hp => off_obj N hd (hs p hp) ((hS p hp).2 es n)
theorem offD {h₀ h : Heap} {L : Addr} {news : List (Addr × Obj)} {a d : Addr} {v : Array Value} {c : Nat} {es : List DictEntry} {n : Nat} (N : News h₀ L h news) (ha : (a, listOf v c) ∈ news) (hd : (d, dictOf es n) ∈ news) : @Ne Nat d a :=
  off_obj (p := (d, dictOf es n)) N ha hd fun h => list_dict v c es n h.symm

structure EsOk (es : List DictEntry) (F R : Int) (fm rm rA nA pA cA : Addr) : Prop where
  files : ∃ t, getL "files" es = some (some (.int F t))
  ranks : ∃ t, getL "ranks" es = some (some (.int R t))
  size : ∃ t, getL "size" es = some (some (.int (F * R) t))
  full : ∃ t, getL "full" es = some (some (.int (fullV F R) t))
  fmasks : getL "file_masks" es = some (some (.ref fm))
  rmasks : getL "rank_masks" es = some (some (.ref rm))
  rays : getL "rays" es = some (some (.ref rA))
  knight : getL "knight" es = some (some (.ref nA))
  pawn : getL "pawn" es = some (some (.ref pA))
  castles : getL "castles" es = some (some (.ref cA))
  has : getL "has_castling" es = some (some (.bool false))
  lost : (getL "rights_lost" es).isSome = true
theorem EsOk.king {es es' : List DictEntry} {F R : Int} {fm rm rA nA pA cA : Addr} (h : EsOk es F R fm rm rA nA pA cA) (k : ∀ x : Str, x ≠ "king" → getL x es' = getL x es) : EsOk es' F R fm rm rA nA pA cA := by
  obtain ⟨⟨t1, h1⟩, ⟨t2, h2⟩, ⟨t3, h3⟩, ⟨t4, h4⟩, h5, h6, h7, h8, h9, h10, h11, h12⟩ := h
  exact ⟨⟨t1, (k _ (by decide)).trans h1⟩, ⟨t2, (k _ (by decide)).trans h2⟩, ⟨t3, (k _ (by decide)).trans h3⟩, ⟨t4, (k _ (by decide)).trans h4⟩, (k _ (by decide)).trans h5, (k _ (by decide)).trans h6, (k _ (by decide)).trans h7, (k _ (by decide)).trans h8, (k _ (by decide)).trans h9, (k _ (by decide)).trans h10, (k _ (by decide)).trans h11, (congrArg Option.isSome (k _ (by decide))).trans h12⟩

/-- what stands behind the k-th step of make_geometry -/
structure GeoP (k : Nat) (S : List (Addr × Obj)) (x d : Addr) (es : List DictEntry) (F R : Int) (fm rm rA nA p0 p1 pA cA : Addr) : Prop where
  ok : EsOk es F R fm rm rA nA pA cA
  solid : ∀ p ∈ S, Solid p
  inst : (x, instObj 53 d) ∈ S
  pawnL : ∃ np, (pA, listOf #[Value.ref p0, Value.ref p1] np) ∈ S
  ord : (@LT.lt Nat _ fm rm) ∧ (@LT.lt Nat _ rm rA) ∧ (@LT.lt Nat _ rA nA) ∧ (@LT.lt Nat _ nA p0) ∧ (@LT.lt Nat _ p0 p1) ∧ (@LT.lt Nat _ p1 cA)
  len : es.length ≤ 50 + k
  king0 : (getL "king" es).isSome = true
  m1 : 1 ≤ k → ∃ v c, (rm, listOf (List.toArray v) c) ∈ S ∧ IntsAre v (rankMasks F R)
  m2 : 1 ≤ k → ∃ v c, (fm, listOf (List.toArray v) c) ∈ S ∧ IntsAre v (fileMasks F R)
  r1 : 2 ≤ k → ∃ rs nr, (rA, listOf (List.toArray rs) nr) ∈ S ∧ ∀ j, j < 8 → ∃ (a : Addr) (v : List Value) (n : Nat), rs[j]? = some (Value.ref a) ∧ (a, listOf v.toArray n) ∈ S ∧ IntsAre v (rayTab F R j)
  r2 : 2 ≤ k → ∃ kA kv kc, getL "king" es = some (some (.ref kA)) ∧ (kA, listOf (List.toArray kv) kc) ∈ S ∧ IntsAre kv (kingAt F R 8)
  pw : 3 ≤ k → ∃ v0 c0 v1 c1, (p0, listOf (List.toArray v0) c0) ∈ S ∧ IntsAre v0 (pawnTab (F * R) (kingAt F R 8) (rayTab F R 4) (rayTab F R 7)) ∧ (p1, listOf (List.toArray v1) c1) ∈ S ∧ IntsAre v1 (pawnTab (F * R) (kingAt F R 8) (rayTab F R 5) (rayTab F R 6))
  kn : 4 ≤ k → ∃ v c, (nA, listOf (List.toArray v) c) ∈ S ∧ IntsAre v (knightTab F R)

def emp (fm rm rA nA p0 p1 cA : Addr) (c : Nat → Nat) : Nat → List (Addr × Obj)
  | 0 => [(rm, listOf #[] (c 0)), (fm, listOf #[] (c 1)), (rA, listOf #[] (c 2)), (nA, listOf #[] (c 3)), (p0, listOf #[] (c 4)), (p1, listOf #[] (c 5)), (cA, listOf #[] (c 6))]
  | 1 => [(rA, listOf #[] (c 2)), (nA, listOf #[] (c 3)), (p0, listOf #[] (c 4)), (p1, listOf #[] (c 5)), (cA, listOf #[] (c 6))]
  | 2 => [(nA, listOf #[] (c 3)), (p0, listOf #[] (c 4)), (p1, listOf #[] (c 5)), (cA, listOf #[] (c 6))]
  | 3 => [(nA, listOf #[] (c 3)), (cA, listOf #[] (c 6))]
  | _ => [(cA, listOf #[] (c 6))]
def St (k : Nat) (news : List (Addr × Obj)) (x : Addr) (F R : Int) : Prop :=
  ∃ (d : Addr) (es : List DictEntry) (ng : Nat) (fm rm rA nA p0 p1 pA cA : Addr) (S : List (Addr × Obj)) (c : Nat → Nat), news = emp fm rm rA nA p0 p1 cA c k ++ (d, dictOf es ng) :: S ∧ GeoP k S x d es F R fm rm rA nA p0 p1 pA cA
noncomputable def tabsOf (F R : Int) : Tabs where
  ray := rayTab F R
  king := kingAt F R 8
  knight := knightTab F R
  pawn0 := pawnTab (F * R) (kingAt F R 8) (rayTab F R 4) (rayTab F R 7)
  pawn1 := pawnTab (F * R) (kingAt F R 8) (rayTab F R 5) (rayTab F R 6)
theorem pawnTab_len (n : Int) (a b c : List Int) (h : 0 ≤ n) : ((pawnTab n a b c).length : Int) = n := by
  unfold pawnTab
  rw [List.length_map, rangeKs_length]; omega
theorem knightTab_len (F R : Int) (h : 0 ≤ F * R) : ((knightTab F R).length : Int) = F * R := by
  unfold knightTab
  rw [List.length_map, rangeKs_length]; omega
theorem tabsOf_len {F R : Int} (h : 0 ≤ F * R) : TabsLen (tabsOf F R) (F * R) where
  ray := fun d _ => by show ((rayTab F R d).length : Int) = _; rw [rayTab_len]; omega
  king := by show ((kingAt F R 8).length : Int) = _; rw [kingAt_len]; omega
  knight := knightTab_len F R h
  pawn0 := pawnTab_len _ _ _ _ h
  pawn1 := pawnTab_len _ _ _ _ h
theorem sub_cons {α : Type} {a : α} {l l' : List α} (h1 : a ∈ l') (h2 : ∀ p ∈ l, p ∈ l') : ∀ p ∈ a :: l, p ∈ l' := List.forall_mem_cons.mpr ⟨h1, h2⟩
theorem news_sub {h₀ h : Heap} {L : Addr} {l l' : List (Addr × Obj)} (N : News h₀ L h l') (k : ∀ p ∈ l, p ∈ l') : News h₀ L h l := fun p hp => N p (k p hp)
theorem forall_app {α : Type} {P : α → Prop} {a b : List α} (h1 : ∀ p ∈ a, P p) (h2 : ∀ p ∈ b, P p) : ∀ p ∈ a ++ b, P p := fun p hp => (List.mem_append.mp hp).elim (h1 p) (h2 p)
theorem solid_part {α : Type} (P : α → Prop) (l : List α) : ∃ r : List α, (∀ p ∈ r, p ∈ l) ∧ (∀ p ∈ r, P p) ∧ ∀ p ∈ l, P p → p ∈ r := by
  induction l with
  | nil => exact ⟨[], fun _ h => h, fun _ h => (nomatch h), fun _ h _ => h⟩
  | cons q l ih =>
    obtain ⟨r, h1, h2, h3⟩ := ih
    by_cases hq : P q
    · refine ⟨q :: r, ?_, List.forall_mem_cons.mpr ⟨hq, h2⟩, ?_⟩
      · intro p hp
        rcases List.mem_cons.mp hp with rfl | hp
        · exact .head _
        · exact .tail _ (h1 p hp)
      · intro p hp hP
        rcases List.mem_cons.mp hp with rfl | hp
        · exact .head _
        · exact .tail _ (h3 p hp hP)
    · refine ⟨r, fun p hp => .tail _ (h1 p hp), h2, ?_⟩
      intro p hp hP
      rcases List.mem_cons.mp hp with rfl | hp
      · exact absurd hP hq
      · exact h3 p hp hP
theorem geo_masks {w : World} {p : Program} {loose : List Str} {mean : ExcName → Option Value} {mg mb : Str → Option Value}
  {dp un : Nat} {gd : Option (List Code)} {cn : Str} {cs : Scope} {a : Addr} {ccd : Value} {cl : List (Str × Addr)} {outer : List Env} {A₀ : Around} {base h₀ : Heap} {L : Addr} {m : Str → Option Value} {s : Shared} {Q E : Value → Shared → Prop}
  {news : List (Addr × Obj)} {x : Addr} {F R : Int}
  (B : Below A₀ base outer h₀) (Fr0 : Fr h₀ L s.heap m) (X : (hd.heap_39 w.params).In h₀) (N : News h₀ L s.heap news) (Tp : Top p loose mean mg mb h₀) (hk : cs.kind = .function) (st : St 0 news x F R)
  (hF : 3 ≤ F ∧ F ≤ 6) (hR : 3 ≤ R ∧ R ≤ 6) (hS : F * R ≤ 36) (hS0 : 9 ≤ F * R)
  (hd : dp + 2 < recursionLimit) (hu : un + 16 < cLine)
  (hret : ∀ (news' : List (Addr × Obj)) (h' : Heap) (tk' : Nat), Fr h₀ L h' m → News h₀ L h' news' → St 1 news' x F R → Q .none { s with heap := h', toks := tk' }) :
  wpAny (model PySem.Challenge.rw_tg0014_01.row.toRowW.1 w) (ktrTop dp un gd cn cs L a ccd cl outer) (call (.ref 71) [.ref x]) Q E s := by
  obtain ⟨d, es, ng, fm, rm, rA, nA, p0, p1, pA, cA, S, c, rfl, G⟩ := st
  obtain ⟨⟨uF, eF⟩, ⟨uR, eR⟩, ⟨uS, eS⟩, ⟨uU, eU⟩, eFm, eRm, eRa, eN, eP, eC, eH, eL⟩ := G.ok
  obtain ⟨o1, o2, o3, o4, o5, o6⟩ := G.ord
  obtain ⟨np, mP⟩ := G.pawnL
  refine masks_c B Fr0 X N Tp hk hF hR hS hS0 (List.Mem.tail _ (List.Mem.tail _ (List.Mem.tail _ (List.Mem.tail _ (List.Mem.tail _ (List.Mem.tail _ G.inst)))))) (List.Mem.tail _ (List.Mem.tail _ (List.Mem.tail _ (List.Mem.tail _ (List.Mem.tail _ (List.Mem.head _)))))) eF eR eRm eFm (List.forall_mem_cons.mpr ⟨(by show @Ne Nat rA rm; omega), (List.forall_mem_cons.mpr ⟨(by show @Ne Nat nA rm; omega), (List.forall_mem_cons.mpr ⟨(by show @Ne Nat p0 rm; omega), (List.forall_mem_cons.mpr ⟨(by show @Ne Nat p1 rm; omega), (List.forall_mem_cons.mpr ⟨(by show @Ne Nat cA rm; omega), (List.forall_mem_cons.mpr ⟨offD N (List.Mem.head _) (List.Mem.tail _ (List.Mem.tail _ (List.Mem.tail _ (List.Mem.tail _ (List.Mem.tail _ (List.Mem.tail _ (List.Mem.tail _ (List.Mem.head _)))))))), (offS N (List.Mem.head _) (fun p hp => (List.Mem.tail _ (List.Mem.tail _ (List.Mem.tail _ (List.Mem.tail _ (List.Mem.tail _ (List.Mem.tail _ (List.Mem.tail _ (List.Mem.tail _ hp))))))))) G.solid)⟩)⟩)⟩)⟩)⟩)⟩) (List.forall_mem_cons.mpr ⟨(by show @Ne Nat rA fm; omega), (List.forall_mem_cons.mpr ⟨(by show @Ne Nat nA fm; omega), (List.forall_mem_cons.mpr ⟨(by show @Ne Nat p0 fm; omega), (List.forall_mem_cons.mpr ⟨(by show @Ne Nat p1 fm; omega), (List.forall_mem_cons.mpr ⟨(by show @Ne Nat cA fm; omega), (List.forall_mem_cons.mpr ⟨offD N (List.Mem.tail _ (List.Mem.head _)) (List.Mem.tail _ (List.Mem.tail _ (List.Mem.tail _ (List.Mem.tail _ (List.Mem.tail _ (List.Mem.tail _ (List.Mem.tail _ (List.Mem.head _)))))))), (offS N (List.Mem.tail _ (List.Mem.head _)) (fun p hp => (List.Mem.tail _ (List.Mem.tail _ (List.Mem.tail _ (List.Mem.tail _ (List.Mem.tail _ (List.Mem.tail _ (List.Mem.tail _ (List.Mem.tail _ hp))))))))) G.solid)⟩)⟩)⟩)⟩)⟩)⟩) (by show @Ne Nat rm fm; omega) hd hu ?_
  intro va vb ca cb h' tk' F' N' ia ib
  exact hret ((rA, listOf #[] (c 2)) :: (nA, listOf #[] (c 3)) :: (p0, listOf #[] (c 4)) :: (p1, listOf #[] (c 5)) :: (cA, listOf #[] (c 6)) :: (d, dictOf es ng) :: (rm, listOf va.toArray ca) :: (fm, listOf vb.toArray cb) :: S) h' tk' F' (news_sub N' (sub_cons (List.Mem.tail _ (List.Mem.tail _ (List.Mem.head _))) (sub_cons (List.Mem.tail _ (List.Mem.tail _ (List.Mem.tail _ (List.Mem.head _)))) (sub_cons (List.Mem.tail _ (List.Mem.tail _ (List.Mem.tail _ (List.Mem.tail _ (List.Mem.head _))))) (sub_cons (List.Mem.tail _ (List.Mem.tail _ (List.Mem.tail _ (List.Mem.tail _ (List.Mem.tail _ (List.Mem.head _)))))) (sub_cons (List.Mem.tail _ (List.Mem.tail _ (List.Mem.tail _ (List.Mem.tail _ (List.Mem.tail _ (List.Mem.tail _ (List.Mem.head _))))))) (sub_cons (List.Mem.tail _ (List.Mem.tail _ (List.Mem.tail _ (List.Mem.tail _ (List.Mem.tail _ (List.Mem.tail _ (List.Mem.tail _ (List.Mem.head _)))))))) (sub_cons (List.Mem.head _) (sub_cons (List.Mem.tail _ (List.Mem.head _)) (fun p hp => (List.Mem.tail _ (List.Mem.tail _ (List.Mem.tail _ (List.Mem.tail _ (List.Mem.tail _ (List.Mem.tail _ (List.Mem.tail _ (List.Mem.tail _ hp)))))))))))))))))) ⟨d, es, ng, fm, rm, rA, nA, p0, p1, pA, cA, _, c, rfl,
    { ok := G.ok, solid := List.forall_mem_cons.mpr ⟨ints_solid ia (by have := rankMasks_len (F := F) hR.1; omega), List.forall_mem_cons.mpr ⟨ints_solid ib (by have := fileMasks_len (R := R) hF.1; omega), G.solid⟩⟩, inst := (List.Mem.tail _ (List.Mem.tail _ G.inst)), pawnL := ⟨np, (List.Mem.tail _ (List.Mem.tail _ mP))⟩, ord := G.ord, len := Nat.le_succ_of_le G.len, king0 := G.king0, m1 := fun _ => ⟨va, ca, (List.Mem.head _), ia⟩, m2 := fun _ => ⟨vb, cb, (List.Mem.tail _ (List.Mem.head _)), ib⟩, r1 := fun h => absurd h (by decide), r2 := fun h => absurd h (by decide), pw := fun h => absurd h (by decide), kn := fun h => absurd h (by decide) }⟩
theorem geo_rays {w : World} {p : Program} {loose : List Str} {mean : ExcName → Option Value} {mg mb : Str → Option Value}
  {dp un : Nat} {gd : Option (List Code)} {cn : Str} {cs : Scope} {a : Addr} {ccd : Value} {cl : List (Str × Addr)} {outer : List Env} {A₀ : Around} {base h₀ : Heap} {L : Addr} {m : Str → Option Value} {s : Shared} {Q E : Value → Shared → Prop}
  {news : List (Addr × Obj)} {x : Addr} {F R : Int}
  (B : Below A₀ base outer h₀) (Fr0 : Fr h₀ L s.heap m) (X : (hd.heap_39 w.params).In h₀) (N : News h₀ L s.heap news) (Tp : Top p loose mean mg mb h₀) (hk : cs.kind = .function) (st : St 1 news x F R)
  (hF : 3 ≤ F ∧ F ≤ 6) (hR : 3 ≤ R ∧ R ≤ 6) (hS : F * R ≤ 36) (hS0 : 9 ≤ F * R)
  (hd : dp + 4 < recursionLimit) (hu : un + 32 < cLine)
  (hret : ∀ (news' : List (Addr × Obj)) (h' : Heap) (tk' : Nat), Fr h₀ L h' m → News h₀ L h' news' → St 2 news' x F R → Q .none { s with heap := h', toks := tk' }) :
  wpAny (model PySem.Challenge.rw_tg0014_01.row.toRowW.1 w) (ktrTop dp un gd cn cs L a ccd cl outer) (call (.ref 85) [.ref x]) Q E s := by
  obtain ⟨d, es, ng, fm, rm, rA, nA, p0, p1, pA, cA, S, c, rfl, G⟩ := st
  obtain ⟨⟨uF, eF⟩, ⟨uR, eR⟩, ⟨uS, eS⟩, ⟨uU, eU⟩, eFm, eRm, eRa, eN, eP, eC, eH, eL⟩ := G.ok
  obtain ⟨o1, o2, o3, o4, o5, o6⟩ := G.ord
  obtain ⟨np, mP⟩ := G.pawnL
  obtain ⟨mv, mc, mm, im⟩ := G.m1 (by decide)
  obtain ⟨fv, fc, mf, iF⟩ := G.m2 (by decide)
  have N2 : News h₀ L s.heap ((d, dictOf es ng) :: (rA, listOf #[] (c 2)) :: (nA, listOf #[] (c 3)) :: (p0, listOf #[] (c 4)) :: (p1, listOf #[] (c 5)) :: (cA, listOf #[] (c 6)) :: S) := news_sub N (sub_cons (List.Mem.tail _ (List.Mem.tail _ (List.Mem.tail _ (List.Mem.tail _ (List.Mem.tail _ (List.Mem.head _)))))) (sub_cons (List.Mem.head _) (sub_cons (List.Mem.tail _ (List.Mem.head _)) (sub_cons (List.Mem.tail _ (List.Mem.tail _ (List.Mem.head _))) (sub_cons (List.Mem.tail _ (List.Mem.tail _ (List.Mem.tail _ (List.Mem.head _)))) (sub_cons (List.Mem.tail _ (List.Mem.tail _ (List.Mem.tail _ (List.Mem.tail _ (List.Mem.head _))))) (fun p hp => (List.Mem.tail _ (List.Mem.tail _ (List.Mem.tail _ (List.Mem.tail _ (List.Mem.tail _ (List.Mem.tail _ hp)))))))))))))
  refine rays_c B Fr0 X N2 Tp hk hF hR hS hS0 (List.Mem.tail _ (List.Mem.tail _ (List.Mem.tail _ (List.Mem.tail _ G.inst)))) eF eR eS eU eFm (List.Mem.tail _ (List.Mem.tail _ (List.Mem.tail _ (List.Mem.tail _ mf)))) iF eRm (List.Mem.tail _ (List.Mem.tail _ (List.Mem.tail _ (List.Mem.tail _ mm)))) im eRa G.king0 (Nat.le_trans G.len (by decide)) (List.forall_mem_cons.mpr ⟨Ne.symm (offD N (List.Mem.tail _ (List.Mem.head _)) (List.Mem.tail _ (List.Mem.tail _ (List.Mem.tail _ (List.Mem.tail _ (List.Mem.tail _ (List.Mem.head _))))))), (List.forall_mem_cons.mpr ⟨Ne.symm (offD N (List.Mem.tail _ (List.Mem.tail _ (List.Mem.head _))) (List.Mem.tail _ (List.Mem.tail _ (List.Mem.tail _ (List.Mem.tail _ (List.Mem.tail _ (List.Mem.head _))))))), (List.forall_mem_cons.mpr ⟨Ne.symm (offD N (List.Mem.tail _ (List.Mem.tail _ (List.Mem.tail _ (List.Mem.head _)))) (List.Mem.tail _ (List.Mem.tail _ (List.Mem.tail _ (List.Mem.tail _ (List.Mem.tail _ (List.Mem.head _))))))), (List.forall_mem_cons.mpr ⟨Ne.symm (offD N (List.Mem.tail _ (List.Mem.tail _ (List.Mem.tail _ (List.Mem.tail _ (List.Mem.head _))))) (List.Mem.tail _ (List.Mem.tail _ (List.Mem.tail _ (List.Mem.tail _ (List.Mem.tail _ (List.Mem.head _))))))), (offDS N (List.Mem.tail _ (List.Mem.tail _ (List.Mem.tail _ (List.Mem.tail _ (List.Mem.tail _ (List.Mem.head _)))))) (fun p hp => (List.Mem.tail _ (List.Mem.tail _ (List.Mem.tail _ (List.Mem.tail _ (List.Mem.tail _ (List.Mem.tail _ hp))))))) G.solid)⟩)⟩)⟩)⟩) (List.forall_mem_cons.mpr ⟨(by show @Ne Nat nA rA; omega), (List.forall_mem_cons.mpr ⟨(by show @Ne Nat p0 rA; omega), (List.forall_mem_cons.mpr ⟨(by show @Ne Nat p1 rA; omega), (List.forall_mem_cons.mpr ⟨(by show @Ne Nat cA rA; omega), (offS N (List.Mem.head _) (fun p hp => (List.Mem.tail _ (List.Mem.tail _ (List.Mem.tail _ (List.Mem.tail _ (List.Mem.tail _ (List.Mem.tail _ hp))))))) G.solid)⟩)⟩)⟩)⟩) (offD N (List.Mem.head _) (List.Mem.tail _ (List.Mem.tail _ (List.Mem.tail _ (List.Mem.tail _ (List.Mem.tail _ (List.Mem.head _))))))) hd hu ?_
  intro es' ng' refs nr kA kv kc rl h' tk' F' N' hray hkv hk1 hk2 hk3
  obtain ⟨RL, r1, r2, r3⟩ := solid_part Solid rl
  have hrs : refs.toArray ≠ #[] := fun e => by
    obtain ⟨a, v, n, e1, _⟩ := hray 0 (by decide)
    have e2 : refs = [] := by simpa using e
    rw [e2] at e1
    exact nomatch e1
  exact hret ((nA, listOf #[] (c 3)) :: (p0, listOf #[] (c 4)) :: (p1, listOf #[] (c 5)) :: (cA, listOf #[] (c 6)) :: (d, dictOf es' ng') :: (rA, listOf refs.toArray nr) :: (kA, listOf kv.toArray kc) :: (RL ++ S)) h' tk' F' (news_sub N' (sub_cons (List.Mem.tail _ (List.Mem.tail _ (List.Mem.tail _ (List.mem_append_right _ (List.Mem.head _))))) (sub_cons (List.Mem.tail _ (List.Mem.tail _ (List.Mem.tail _ (List.mem_append_right _ (List.Mem.tail _ (List.Mem.head _)))))) (sub_cons (List.Mem.tail _ (List.Mem.tail _ (List.Mem.tail _ (List.mem_append_right _ (List.Mem.tail _ (List.Mem.tail _ (List.Mem.head _))))))) (sub_cons (List.Mem.tail _ (List.Mem.tail _ (List.Mem.tail _ (List.mem_append_right _ (List.Mem.tail _ (List.Mem.tail _ (List.Mem.tail _ (List.Mem.head _)))))))) (sub_cons (List.Mem.head _) (sub_cons (List.Mem.tail _ (List.Mem.head _)) (sub_cons (List.Mem.tail _ (List.Mem.tail _ (List.Mem.head _))) (forall_app (fun p hp => (List.Mem.tail _ (List.Mem.tail _ (List.Mem.tail _ (List.mem_append_left _ (r1 p hp)))))) (fun p hp => (List.Mem.tail _ (List.Mem.tail _ (List.Mem.tail _ (List.mem_append_right _ (List.Mem.tail _ (List.Mem.tail _ (List.Mem.tail _ (List.Mem.tail _ hp))))))))))))))))))
    ⟨d, es', ng', fm, rm, rA, nA, p0, p1, pA, cA, _, c, rfl,
    { ok := G.ok.king hk1, solid := List.forall_mem_cons.mpr ⟨list_solid hrs, List.forall_mem_cons.mpr ⟨ints_solid hkv (by rw [kingAt_len]; omega), forall_app r2 G.solid⟩⟩, inst := (List.Mem.tail _ (List.Mem.tail _ (List.mem_append_right _ G.inst))), pawnL := ⟨np, (List.Mem.tail _ (List.Mem.tail _ (List.mem_append_right _ mP)))⟩, ord := G.ord, len := by have := G.len; omega, king0 := by rw [hk2]; rfl, m1 := fun _ => ⟨mv, mc, (List.Mem.tail _ (List.Mem.tail _ (List.mem_append_right _ mm))), im⟩, m2 := fun _ => ⟨fv, fc, (List.Mem.tail _ (List.Mem.tail _ (List.mem_append_right _ mf))), iF⟩,
       r1 := fun _ => ⟨refs, nr, (List.Mem.head _), fun j hj => by
         obtain ⟨a, v, n, e1, e2, e3⟩ := hray j hj
         exact ⟨a, v, n, e1, (List.Mem.tail _ (List.Mem.tail _ (List.mem_append_left _ (r3 _ e2 (ints_solid e3 (by rw [rayTab_len]; omega)))))), e3⟩⟩,
       r2 := fun _ => ⟨kA, kv, kc, hk2, (List.Mem.tail _ (List.Mem.head _)), hkv⟩, pw := fun h => absurd h (by decide), kn := fun h => absurd h (by decide) }⟩
theorem geo_pawns {w : World} {p : Program} {loose : List Str} {mean : ExcName → Option Value} {mg mb : Str → Option Value}
  {dp un : Nat} {gd : Option (List Code)} {cn : Str} {cs : Scope} {a : Addr} {ccd : Value} {cl : List (Str × Addr)} {outer : List Env} {A₀ : Around} {base h₀ : Heap} {L : Addr} {m : Str → Option Value} {s : Shared} {Q E : Value → Shared → Prop}
  {news : List (Addr × Obj)} {x : Addr} {F R : Int}
  (B : Below A₀ base outer h₀) (Fr0 : Fr h₀ L s.heap m) (X : (hd.heap_39 w.params).In h₀) (N : News h₀ L s.heap news) (Tp : Top p loose mean mg mb h₀) (hk : cs.kind = .function) (st : St 2 news x F R)
  (hF : 3 ≤ F ∧ F ≤ 6) (hR : 3 ≤ R ∧ R ≤ 6) (hS : F * R ≤ 36) (hS0 : 9 ≤ F * R)
  (hd : dp + 2 < recursionLimit) (hu : un + 16 < cLine)
  (hret : ∀ (news' : List (Addr × Obj)) (h' : Heap) (tk' : Nat), Fr h₀ L h' m → News h₀ L h' news' → St 3 news' x F R → Q .none { s with heap := h', toks := tk' }) :
  wpAny (model PySem.Challenge.rw_tg0014_01.row.toRowW.1 w) (ktrTop dp un gd cn cs L a ccd cl outer) (call (.ref 92) [.ref x]) Q E s := by
  obtain ⟨d, es, ng, fm, rm, rA, nA, p0, p1, pA, cA, S, c, rfl, G⟩ := st
  obtain ⟨⟨uF, eF⟩, ⟨uR, eR⟩, ⟨uS, eS⟩, ⟨uU, eU⟩, eFm, eRm, eRa, eN, eP, eC, eH, eL⟩ := G.ok
  obtain ⟨o1, o2, o3, o4, o5, o6⟩ := G.ord
  obtain ⟨np, mP⟩ := G.pawnL
  obtain ⟨mv, mc, mm, im⟩ := G.m1 (by decide)
  obtain ⟨fv, fc, mf, iF⟩ := G.m2 (by decide)
  obtain ⟨rs, nr, mr, hr⟩ := G.r1 (by decide)
  obtain ⟨kA, kv, kc, ek, mk, ik⟩ := G.r2 (by decide)
  obtain ⟨b4, v4, n4, e4, x4, i4⟩ := hr 4 (by decide)
  obtain ⟨b5, v5, n5, e5, x5, i5⟩ := hr 5 (by decide)
  obtain ⟨b6, v6, n6, e6, x6, i6⟩ := hr 6 (by decide)
  obtain ⟨b7, v7, n7, e7, x7, i7⟩ := hr 7 (by decide)
  have N2 : News h₀ L s.heap ((p0, listOf #[] (c 4)) :: (p1, listOf #[] (c 5)) :: (nA, listOf #[] (c 3)) :: (cA, listOf #[] (c 6)) :: (d, dictOf es ng) :: S) := news_sub N (sub_cons (List.Mem.tail _ (List.Mem.head _)) (sub_cons (List.Mem.tail _ (List.Mem.tail _ (List.Mem.head _))) (sub_cons (List.Mem.head _) (sub_cons (List.Mem.tail _ (List.Mem.tail _ (List.Mem.tail _ (List.Mem.head _)))) (sub_cons (List.Mem.tail _ (List.Mem.tail _ (List.Mem.tail _ (List.Mem.tail _ (List.Mem.head _))))) (fun p hp => (List.Mem.tail _ (List.Mem.tail _ (List.Mem.tail _ (List.Mem.tail _ (List.Mem.tail _ hp)))))))))))
  refine pawns_c B Fr0 X N2 Tp hk hF hR hS hS0 (List.Mem.tail _ (List.Mem.tail _ (List.Mem.tail _ G.inst))) (List.Mem.tail _ (List.Mem.tail _ (List.Mem.head _))) eS eP (List.Mem.tail _ (List.Mem.tail _ (List.Mem.tail _ mP))) ek (List.Mem.tail _ (List.Mem.tail _ (List.Mem.tail _ mk))) ik (by rw [kingAt_len]; omega) eRa (List.Mem.tail _ (List.Mem.tail _ (List.Mem.tail _ mr))) e4 e5 e6 e7 (List.Mem.tail _ (List.Mem.tail _ (List.Mem.tail _ x4))) (List.Mem.tail _ (List.Mem.tail _ (List.Mem.tail _ x5))) (List.Mem.tail _ (List.Mem.tail _ (List.Mem.tail _ x6))) (List.Mem.tail _ (List.Mem.tail _ (List.Mem.tail _ x7))) i4 i5 i6 i7 (by rw [rayTab_len]; omega) (by rw [rayTab_len]; omega) (by rw [rayTab_len]; omega) (by rw [rayTab_len]; omega) (List.forall_mem_cons.mpr ⟨(by show @Ne Nat nA p0; omega), (List.forall_mem_cons.mpr ⟨(by show @Ne Nat cA p0; omega), (List.forall_mem_cons.mpr ⟨offD N (List.Mem.tail _ (List.Mem.head _)) (List.Mem.tail _ (List.Mem.tail _ (List.Mem.tail _ (List.Mem.tail _ (List.Mem.head _))))), (offS N (List.Mem.tail _ (List.Mem.head _)) (fun p hp => (List.Mem.tail _ (List.Mem.tail _ (List.Mem.tail _ (List.Mem.tail _ (List.Mem.tail _ hp)))))) G.solid)⟩)⟩)⟩) (List.forall_mem_cons.mpr ⟨(by show @Ne Nat nA p1; omega), (List.forall_mem_cons.mpr ⟨(by show @Ne Nat cA p1; omega), (List.forall_mem_cons.mpr ⟨offD N (List.Mem.tail _ (List.Mem.tail _ (List.Mem.head _))) (List.Mem.tail _ (List.Mem.tail _ (List.Mem.tail _ (List.Mem.tail _ (List.Mem.head _))))), (offS N (List.Mem.tail _ (List.Mem.tail _ (List.Mem.head _))) (fun p hp => (List.Mem.tail _ (List.Mem.tail _ (List.Mem.tail _ (List.Mem.tail _ (List.Mem.tail _ hp)))))) G.solid)⟩)⟩)⟩) (by show @Ne Nat p0 p1; omega) hd hu ?_
  intro va vb ca cb h' tk' F' N' ia ib
  exact hret ((nA, listOf #[] (c 3)) :: (cA, listOf #[] (c 6)) :: (d, dictOf es ng) :: (p0, listOf va.toArray ca) :: (p1, listOf vb.toArray cb) :: S) h' tk' F' (news_sub N' (sub_cons (List.Mem.tail _ (List.Mem.tail _ (List.Mem.head _))) (sub_cons (List.Mem.tail _ (List.Mem.tail _ (List.Mem.tail _ (List.Mem.head _)))) (sub_cons (List.Mem.tail _ (List.Mem.tail _ (List.Mem.tail _ (List.Mem.tail _ (List.Mem.head _))))) (sub_cons (List.Mem.head _) (sub_cons (List.Mem.tail _ (List.Mem.head _)) (fun p hp => (List.Mem.tail _ (List.Mem.tail _ (List.Mem.tail _ (List.Mem.tail _ (List.Mem.tail _ hp))))))))))))
    ⟨d, es, ng, fm, rm, rA, nA, p0, p1, pA, cA, _, c, rfl,
    { ok := G.ok, solid := List.forall_mem_cons.mpr ⟨ints_solid ia (by have := pawnTab_len (F * R) (kingAt F R 8) (rayTab F R 4) (rayTab F R 7) (by omega); omega), List.forall_mem_cons.mpr ⟨ints_solid ib (by have := pawnTab_len (F * R) (kingAt F R 8) (rayTab F R 5) (rayTab F R 6) (by omega); omega), G.solid⟩⟩, inst := (List.Mem.tail _ (List.Mem.tail _ G.inst)), pawnL := ⟨np, (List.Mem.tail _ (List.Mem.tail _ mP))⟩, ord := G.ord, len := Nat.le_succ_of_le G.len, king0 := G.king0, m1 := fun _ => ⟨mv, mc, (List.Mem.tail _ (List.Mem.tail _ mm)), im⟩, m2 := fun _ => ⟨fv, fc, (List.Mem.tail _ (List.Mem.tail _ mf)), iF⟩, r1 := fun _ => ⟨rs, nr, (List.Mem.tail _ (List.Mem.tail _ mr)), fun j hj => by obtain ⟨a, v, n, e1, e2, e3⟩ := hr j hj; exact ⟨a, v, n, e1, (List.Mem.tail _ (List.Mem.tail _ e2)), e3⟩⟩, r2 := fun _ => ⟨kA, kv, kc, ek, (List.Mem.tail _ (List.Mem.tail _ mk)), ik⟩, pw := fun _ => ⟨va, ca, vb, cb, (List.Mem.head _), ia, (List.Mem.tail _ (List.Mem.head _)), ib⟩, kn := fun h => absurd h (by decide) }⟩
theorem geo_knights {w : World} {p : Program} {loose : List Str} {mean : ExcName → Option Value} {mg mb : Str → Option Value}
  {dp un : Nat} {gd : Option (List Code)} {cn : Str} {cs : Scope} {a : Addr} {ccd : Value} {cl : List (Str × Addr)} {outer : List Env} {A₀ : Around} {base h₀ : Heap} {L : Addr} {m : Str → Option Value} {s : Shared} {Q E : Value → Shared → Prop}
  {news : List (Addr × Obj)} {x : Addr} {F R : Int}
  (B : Below A₀ base outer h₀) (Fr0 : Fr h₀ L s.heap m) (X : (hd.heap_39 w.params).In h₀) (N : News h₀ L s.heap news) (Tp : Top p loose mean mg mb h₀) (hk : cs.kind = .function) (st : St 3 news x F R)
  (hF : 3 ≤ F ∧ F ≤ 6) (hR : 3 ≤ R ∧ R ≤ 6) (hS : F * R ≤ 36) (hS0 : 9 ≤ F * R)
  (hd : dp + 2 < recursionLimit) (hu : un + 16 < cLine)
  (hret : ∀ (news' : List (Addr × Obj)) (h' : Heap) (tk' : Nat), Fr h₀ L h' m → News h₀ L h' news' → St 4 news' x F R → Q .none { s with heap := h', toks := tk' }) :
  wpAny (model PySem.Challenge.rw_tg0014_01.row.toRowW.1 w) (ktrTop dp un gd cn cs L a ccd cl outer) (call (.ref 99) [.ref x]) Q E s := by
  obtain ⟨d, es, ng, fm, rm, rA, nA, p0, p1, pA, cA, S, c, rfl, G⟩ := st
  obtain ⟨⟨uF, eF⟩, ⟨uR, eR⟩, ⟨uS, eS⟩, ⟨uU, eU⟩, eFm, eRm, eRa, eN, eP, eC, eH, eL⟩ := G.ok
  obtain ⟨o1, o2, o3, o4, o5, o6⟩ := G.ord
  obtain ⟨np, mP⟩ := G.pawnL
  obtain ⟨mv, mc, mm, im⟩ := G.m1 (by decide)
  obtain ⟨fv, fc, mf, iF⟩ := G.m2 (by decide)
  obtain ⟨rs, nr, mr, hr⟩ := G.r1 (by decide)
  obtain ⟨kA, kv, kc, ek, mk, ik⟩ := G.r2 (by decide)
  obtain ⟨w0, k0, w1, k1, mw0, iw0, mw1, iw1⟩ := G.pw (by decide)
  refine knights_c B Fr0 X N Tp hk hF hR hS hS0 (List.Mem.tail _ (List.Mem.tail _ G.inst)) (List.Mem.tail _ (List.Mem.head _)) eF eS eU eFm (List.Mem.tail _ (List.Mem.tail _ mf)) iF eN (List.forall_mem_cons.mpr ⟨(by show @Ne Nat cA nA; omega), (List.forall_mem_cons.mpr ⟨offD N (List.Mem.head _) (List.Mem.tail _ (List.Mem.tail _ (List.Mem.head _))), (offS N (List.Mem.head _) (fun p hp => (List.Mem.tail _ (List.Mem.tail _ (List.Mem.tail _ hp)))) G.solid)⟩)⟩) hd hu ?_
  intro va ca h' tk' F' N' ia
  exact hret ((cA, listOf #[] (c 6)) :: (d, dictOf es ng) :: (nA, listOf va.toArray ca) :: S) h' tk' F' (news_sub N' (sub_cons (List.Mem.tail _ (List.Mem.head _)) (sub_cons (List.Mem.tail _ (List.Mem.tail _ (List.Mem.head _))) (sub_cons (List.Mem.head _) (fun p hp => (List.Mem.tail _ (List.Mem.tail _ (List.Mem.tail _ hp))))))))
    ⟨d, es, ng, fm, rm, rA, nA, p0, p1, pA, cA, _, c, rfl,
    { ok := G.ok, solid := List.forall_mem_cons.mpr ⟨ints_solid ia (by have := knightTab_len F R (by omega); omega), G.solid⟩, inst := (List.Mem.tail _ G.inst), pawnL := ⟨np, (List.Mem.tail _ mP)⟩, ord := G.ord, len := Nat.le_succ_of_le G.len, king0 := G.king0, m1 := fun _ => ⟨mv, mc, (List.Mem.tail _ mm), im⟩, m2 := fun _ => ⟨fv, fc, (List.Mem.tail _ mf), iF⟩, r1 := fun _ => ⟨rs, nr, (List.Mem.tail _ mr), fun j hj => by obtain ⟨a, v, n, e1, e2, e3⟩ := hr j hj; exact ⟨a, v, n, e1, (List.Mem.tail _ e2), e3⟩⟩, r2 := fun _ => ⟨kA, kv, kc, ek, (List.Mem.tail _ mk), ik⟩, pw := fun _ => ⟨w0, k0, w1, k1, (List.Mem.tail _ mw0), iw0, (List.Mem.tail _ mw1), iw1⟩, kn := fun _ => ⟨va, ca, (List.Mem.head _), ia⟩ }⟩
theorem geo_castles {w : World} {p : Program} {loose : List Str} {mean : ExcName → Option Value} {mg mb : Str → Option Value}
  {dp un : Nat} {gd : Option (List Code)} {cn : Str} {cs : Scope} {a : Addr} {ccd : Value} {cl : List (Str × Addr)} {outer : List Env} {A₀ : Around} {base h₀ : Heap} {L : Addr} {m : Str → Option Value} {s : Shared} {Q E : Value → Shared → Prop}
  {news : List (Addr × Obj)} {x : Addr} {F R : Int}
  (B : Below A₀ base outer h₀) (Fr0 : Fr h₀ L s.heap m) (X : (hd.heap_39 w.params).In h₀) (N : News h₀ L s.heap news) (Tp : Top p loose mean mg mb h₀) (hk : cs.kind = .function) (st : St 4 news x F R)
  (hF : 3 ≤ F ∧ F ≤ 6) (hR : 3 ≤ R ∧ R ≤ 6) (hS : F * R ≤ 36) (hS0 : 9 ≤ F * R)
  (hd : dp + 2 < recursionLimit) (hu : un + 16 < cLine)
  (hret : ∀ (news' : List (Addr × Obj)) (h' : Heap) (tk' : Nat), Fr h₀ L h' m → News h₀ L h' news' → GeoOk news' x F R (tabsOf F R) → Q .none { s with heap := h', toks := tk' }) :
  wpAny (model PySem.Challenge.rw_tg0014_01.row.toRowW.1 w) (ktrTop dp un gd cn cs L a ccd cl outer) (call (.ref 106) [.ref x]) Q E s := by
  obtain ⟨d, es, ng, fm, rm, rA, nA, p0, p1, pA, cA, S, c, rfl, G⟩ := st
  obtain ⟨⟨uF, eF⟩, ⟨uR, eR⟩, ⟨uS, eS⟩, ⟨uU, eU⟩, eFm, eRm, eRa, eN, eP, eC, eH, eL⟩ := G.ok
  obtain ⟨o1, o2, o3, o4, o5, o6⟩ := G.ord
  obtain ⟨np, mP⟩ := G.pawnL
  obtain ⟨mv, mc, mm, im⟩ := G.m1 (by decide)
  obtain ⟨fv, fc, mf, iF⟩ := G.m2 (by decide)
  obtain ⟨rs, nr, mr, hr⟩ := G.r1 (by decide)
  obtain ⟨kA, kv, kc, ek, mk, ik⟩ := G.r2 (by decide)
  obtain ⟨w0, k0, w1, k1, mw0, iw0, mw1, iw1⟩ := G.pw (by decide)
  obtain ⟨nv, nc, mn, iN⟩ := G.kn (by decide)
  have N2 : News h₀ L s.heap ((d, dictOf es ng) :: (cA, listOf #[] (c 6)) :: S) := news_sub N (sub_cons (List.Mem.tail _ (List.Mem.head _)) (sub_cons (List.Mem.head _) (fun p hp => (List.Mem.tail _ (List.Mem.tail _ hp)))))
  refine castles_c (rv := none) B Fr0 X N2 Tp hk hF hR hS hS0 G.inst eF eR eS eH eC eL (Nat.le_trans G.len (by decide)) (offDS N (List.Mem.tail _ (List.Mem.head _)) (fun p hp => (List.Mem.tail _ (List.Mem.tail _ hp))) G.solid) (offS N (List.Mem.head _) (fun p hp => (List.Mem.tail _ (List.Mem.tail _ hp))) G.solid) (offD N (List.Mem.head _) (List.Mem.tail _ (List.Mem.head _))) hd hu ?_
  intro es' ng' va ca h' tk' F' N' hk1
  exact hret _ h' tk' F' N' ⟨d, es', ng', uF, uS, rA, rs, nr, kA, kv, kc, nA, nv, nc, pA, np, p0, w0, k0, p1, w1, k1, (List.Mem.tail _ (List.Mem.tail _ G.inst)), (List.Mem.head _), (hk1 _ (by decide)).trans eF, (hk1 _ (by decide)).trans eS, (hk1 _ (by decide)).trans eRa, (List.Mem.tail _ (List.Mem.tail _ mr)), fun j hj => by obtain ⟨a, v, n, e1, e2, e3⟩ := hr j hj; exact ⟨a, v, n, e1, (List.Mem.tail _ (List.Mem.tail _ e2)), e3⟩,
    (hk1 _ (by decide)).trans ek, (List.Mem.tail _ (List.Mem.tail _ mk)), ik, (hk1 _ (by decide)).trans eN, (List.Mem.tail _ (List.Mem.tail _ mn)), iN, (hk1 _ (by decide)).trans eP, (List.Mem.tail _ (List.Mem.tail _ mP)), (List.Mem.tail _ (List.Mem.tail _ mw0)), iw0, (List.Mem.tail _ (List.Mem.tail _ mw1)), iw1⟩
theorem geo_start {h₀ h : Heap} {L : Addr} {l0 l1 l2 l3 l4 l5 l6 l7 l8 l9 x d : Addr} {c0 c1 c2 c3 c4 c5 c6 c7 c8 c9 ng : Nat} {es : List DictEntry} {F R : Int}
    (N : News h₀ L h [(l0, listOf #[] c0), (l1, listOf #[] c1), (l2, listOf #[Value.ref l4, Value.ref l3] c2), (l3, listOf #[] c3), (l4, listOf #[] c4), (l5, listOf #[] c5), (l6, listOf #[] c6), (l7, listOf #[] c7), (l8, listOf #[] c8), (l9, listOf #[] c9), (x, instObj 53 d), (d, dictOf es ng)])
    (ok : EsOk es F R l9 l8 l7 l5 l2 l1) (hk : (getL "king" es).isSome = true) (hl : es.length ≤ 50) (ord : (@LT.lt Nat _ l9 l8) ∧ (@LT.lt Nat _ l8 l7) ∧ (@LT.lt Nat _ l7 l5) ∧ (@LT.lt Nat _ l5 l4) ∧ (@LT.lt Nat _ l4 l3) ∧ (@LT.lt Nat _ l3 l1)) :
    ∃ nw, News h₀ L h nw ∧ St 0 nw x F R := by
  refine ⟨(l8, listOf #[] c8) :: (l9, listOf #[] c9) :: (l7, listOf #[] c7) :: (l5, listOf #[] c5) :: (l4, listOf #[] c4) :: (l3, listOf #[] c3) :: (l1, listOf #[] c1) :: (d, dictOf es ng) :: (x, instObj 53 d) :: (l2, listOf #[Value.ref l4, Value.ref l3] c2) :: [], news_sub N (sub_cons (List.Mem.tail _ (List.Mem.tail _ (List.Mem.tail _ (List.Mem.tail _ (List.Mem.tail _ (List.Mem.tail _ (List.Mem.tail _ (List.Mem.tail _ (List.Mem.head _))))))))) (sub_cons (List.Mem.tail _ (List.Mem.tail _ (List.Mem.tail _ (List.Mem.tail _ (List.Mem.tail _ (List.Mem.tail _ (List.Mem.tail _ (List.Mem.tail _ (List.Mem.tail _ (List.Mem.head _)))))))))) (sub_cons (List.Mem.tail _ (List.Mem.tail _ (List.Mem.tail _ (List.Mem.tail _ (List.Mem.tail _ (List.Mem.tail _ (List.Mem.tail _ (List.Mem.head _)))))))) (sub_cons (List.Mem.tail _ (List.Mem.tail _ (List.Mem.tail _ (List.Mem.tail _ (List.Mem.tail _ (List.Mem.head _)))))) (sub_cons (List.Mem.tail _ (List.Mem.tail _ (List.Mem.tail _ (List.Mem.tail _ (List.Mem.head _))))) (sub_cons (List.Mem.tail _ (List.Mem.tail _ (List.Mem.tail _ (List.Mem.head _)))) (sub_cons (List.Mem.tail _ (List.Mem.head _)) (sub_cons (List.Mem.tail _ (List.Mem.tail _ (List.Mem.tail _ (List.Mem.tail _ (List.Mem.tail _ (List.Mem.tail _ (List.Mem.tail _ (List.Mem.tail _ (List.Mem.tail _ (List.Mem.tail _ (List.Mem.tail _ (List.Mem.head _)))))))))))) (sub_cons (List.Mem.tail _ (List.Mem.tail _ (List.Mem.tail _ (List.Mem.tail _ (List.Mem.tail _ (List.Mem.tail _ (List.Mem.tail _ (List.Mem.tail _ (List.Mem.tail _ (List.Mem.tail _ (List.Mem.head _))))))))))) (sub_cons (List.Mem.tail _ (List.Mem.tail _ (List.Mem.head _))) (fun p hp => nomatch hp))))))))))), d, es, ng, l9, l8, l7, l5, l4, l3, l2, l1, [(x, instObj 53 d), (l2, listOf #[Value.ref l4, Value.ref l3] c2)], fun k => [c8, c9, c7, c5, c4, c3, c1].getD k 0, rfl, ?_⟩
  exact { ok := ok, solid := List.forall_mem_cons.mpr ⟨inst_solid, List.forall_mem_cons.mpr ⟨list_solid (by simp), fun p hp => nomatch hp⟩⟩, inst := (List.Mem.head _), pawnL := ⟨c2, (List.Mem.tail _ (List.Mem.head _))⟩, ord := ord, len := hl, king0 := hk, m1 := fun h => absurd h (by decide), m2 := fun h => absurd h (by decide), r1 := fun h => absurd h (by decide), r2 := fun h => absurd h (by decide), pw := fun h => absurd h (by decide), kn := fun h => absurd h (by decide) }
theorem stays_news {h₀ h h' : Heap} {L : Addr} {news : List (Addr × Obj)} (N : News h₀ L h news) (k : h.StaysIn h') : News h₀ L h' news := fun p hp => ⟨k _ _ (N p hp).1, (N p hp).2⟩
theorem news_app {h₀ h : Heap} {L : Addr} {a b : List (Addr × Obj)} (N1 : News h₀ L h a) (N2 : News h₀ L h b) : News h₀ L h (a ++ b) := forall_app N1 N2
theorem news_off {h₀ h h' : Heap} {L L' : Addr} {news G : List (Addr × Obj)} (N : News h₀ L h news) (N' : News h L' h' G) : ∀ p ∈ G, ∀ q ∈ news, p.1 ≠ q.1 := fun p hp q hq e => by
  have h1 := (N' p hp).2.2
  have h2 := (N q hq).1
  rw [e, h2] at h1
  exact nomatch h1

section
def geo_c_P (w : World) (p : Program) (loose : List Str) (mean : ExcName → Option Value) (mg : Str → Option Value) (mb : Str → Option Value) (dp : Nat) (un : Nat) (gd : Option (List Code)) (cn : Str) (cs : Scope) (a : Addr) (ccd : Value) (cl : List (Str × Addr)) (outer : List Env) (A₀ : Around) (base : Heap) (h₀ : Heap) (L : Addr) (m : Str → Option Value) (s : Shared) (Q : Value → Shared → Prop) (E : Value → Shared → Prop) (news : List (Addr × Obj)) (F : Int) (R : Int) (t1 : Tok) (t2 : Tok) : Prop := ∀ (B : Below A₀ base outer h₀) (Fr0 : Fr h₀ L s.heap m) (X : (hd.heap_39 w.params).In h₀) (N : News h₀ L s.heap news) (Tp : Top p loose mean mg mb h₀) (hk : cs.kind = .function)
  (hF : 3 ≤ F ∧ F ≤ 6) (hR : 3 ≤ R ∧ R ≤ 6) (hS : F * R ≤ 36) (hS0 : 9 ≤ F * R)
  (hd : dp + 8 < recursionLimit) (hu : un + 80 < cLine)
  (hret : ∀ (g : Addr) (G : List (Addr × Obj)) (h' : Heap) (tk' : Nat), Fr h₀ L h' m → News h₀ L h' (G ++ news) → (∀ p ∈ G, ∀ q ∈ news, p.1 ≠ q.1) → GeoOk G g F R (tabsOf F R) → Q (.ref g) { s with heap := h', toks := tk' }),
  wpAny (model PySem.Challenge.rw_tg0014_01.row.toRowW.1 w) (ktrTop dp un gd cn cs L a ccd cl outer) (call (.ref 113) [.int F t1, .int R t2, .bool false, .bool false]) Q E s
set_option maxRecDepth 100000 in
set_option maxHeartbeats 8000000 in
theorem geo_c_q : ∀ x : Ctx × (Tok) × (Tok), geo_c_P x.1.w x.1.p x.1.loose x.1.mean x.1.mg x.1.mb x.1.dp x.1.un x.1.gd x.1.cn x.1.cs x.1.a x.1.ccd x.1.cl x.1.outer x.1.A₀ x.1.base x.1.h₀ x.1.L x.1.m x.1.s x.1.Q x.1.E x.1.news x.1.F x.1.R x.2.1 x.2.2 := by
  refine eps_c ((?_ : ∀ w p loose mean mg mb dp un gd cn cs a ccd cl outer A₀ base h₀ L m s Q E news F R t1 t2, geo_c_P w p loose mean mg mb dp un gd cn cs a ccd cl outer A₀ base h₀ L m s Q E news F R t1 t2) _ _ _ _ _ _ _ _ _ _ _ _ _ _ _ _ _ _ _ _ _ _ _ _ _ _ _ _)
  intros w p loose mean mg mb dp un gd cn cs a ccd cl outer A₀ base h₀ L m s Q E news F R t1 t2 B Fr0 X N Tp hk hF hR hS hS0 hd hu hret
  w_top off
  revert X; k_fill; intro X
  refine wpAny_call ?_
  k_dflt (refine' code_def0 ?k1 ?k2 ?k3 ?k5 ?kA ?kF ?kK ?k6 ?k7 ?k8 ?k9 ?kB ?_ ?c2 ?c3 ?c4 ?c5; (case kA => exact rfl); (case kF => exact rfl); (case kK => assumption); (case k1 => k_asm); (case k2 => k_asm); (case k3 => k_asm); (case k5 => k_asm); (case k6 => k_is); (case k7 => k_is); (case k8 => (first | exact room2 hd rfl | exact room1 hd rfl | exact room0 hd | ktr_room)); (case k9 => exact BindsTo.of_eq rfl); (case c5 => decide); (case kB => exact locs rfl); (case c2 => exact rfl); (case c3 => exact rfl); (case c4 => exact rfl); k_whole)
  refine eps2 ((?_ : All2 _) _ _); intros L' h' F' N' B' X' T'
  (try dsimp only)
  (repeat' (first | (with_reducible first | refine const_tk ?_ | refine and_tk ?_ | refine or_tk ?_ | refine ior_tk ?_ | refine add_tk ?_ | refine sub_tk ?_ | refine inv_tk ?_) | ((with_reducible show wpAny _ _ (storeName _ _ _) _ _ _); k_dflt (refine' storeX_L ?sF ?sN ?_ ?sa ?sb; (case sF => k_asm); (case sN => k_asm); (case sa => rfl); (case sb => rfl); k_whole; refine eps1 ((?_ : All1 _) _); intros h' F' N'; (try k_sweep))) | ((with_reducible show wpAny _ _ (newList _) _ _ _); k_dflt (refine' newList_K ?k1 ?k2 ?_; (case k1 => k_asm); (case k2 => k_asm); k_whole); refine eps2 ((?_ : All2 _) _ _); intros l' h' F' N' l1; (try k_lt l1); (try k_sweep)) | ((with_reducible show wpAny _ _ (call (Value.ref 71) _) _ _ _); refine Stop.out ?_) | ((with_reducible show wpAny _ _ (call (Value.ref 53) _) _ _ _); k_dflt (refine' call_cls ?k1 ?k2 ?k3 ?k4 ?k5 ?k6 ?_; (case k1 => k_asm); (case k2 => k_asm); (case k3 => k_asm); (case k4 => k_is); (case k5 => k_is); (case k6 => k_is); k_whole; refine eps3 ((?_ : All3 _) _ _ _); intros x' d' h' F' N' l1 l2; (try k_lt l1); (try k_lt2 l2); (try k_sweep); refine' code_def ?k1 ?k2 ?k3 ?k4 ?k5 ?kA ?kF ?kK ?k6 ?k7 ?k8 ?k9 ?kB ?_ ?c2 ?c3 ?c4 ?c5; (case kA => exact rfl); (case kF => exact rfl); (case kK => first | exact rfl | assumption); (case k1 => k_asm); (case k2 => k_asm); (case k3 => k_asm); (case k4 => k_asm); (case k5 => k_asm); (case k6 => k_is); (case k7 => k_is); (case k8 => (first | exact room2 hd rfl | exact room1 hd rfl | exact room0 hd | ktr_room)); (case k9 => exact BindsTo.of_eq rfl); (case c5 => decide); (case kB => exact locs rfl); (case c2 => exact rfl); (case c3 => exact rfl); (case c4 => exact rfl); k_whole; refine eps3 ((?_ : All3 _) _ _ _); intros g' L' h' FG' F' N' B' X' T'; (try dsimp only))) | ((with_reducible show wpAny _ _ (setAttr (Value.ref _) _ _) _ _ _); k_dflt (refine' set_dict ?k1 ?k2 ?k3 ?k4 ?k5 ?k6 ?k7 ?k8 ?k9 ?k10 ?k11 ?k12 ?k13 ?_; (case k1 => k_asm); (case k2 => k_asm); (case k3 => k_asm); (case k4 => k_inst); (case k5 => exact rfl); (case k6 => k_is); (case k7 => k_is); (case k8 => k_is); (case k9 => k_is); (case k10 => k_get); (case k11 => k_put); (case k12 => k_upd); (case k13 => exact Nat.le_of_ble_eq_true rfl); k_whole; refine eps1 ((?_ : All1 _) _); intros h' F' N'; (try k_sweep))) | (k_end; wrow_close) | walk1 | (dsimp only; walk1) | (leave1; (try dsimp only)) | fail "no step"))
  with_reducible rename News s.heap _ _ [_, _, _, _, _, _, _, _, _, _, _, _] => N1
  have hst := geo_start (F := F) (R := R) N1 ⟨⟨_, by rfl⟩, ⟨_, by rfl⟩, ⟨_, by rfl⟩, ⟨_, by rfl⟩, by rfl, by rfl, by rfl, by rfl, by rfl, by rfl, by rfl, by rfl⟩ (by rfl) (Nat.le_of_ble_eq_true rfl) (by omega)
  obtain ⟨nw, N2, st⟩ := hst
  clear N1
  refine Stop.mk ?_
  (k_here; (with_reducible show wpAny _ _ (call (Value.ref 71) _) _ _ _); k_dflt (refine' geo_masks ?k1 ?k2 ?k3 ?k4 ?k5 ?k6 ?st ?hF ?hR ?hS ?hT ?d ?u ?_; (case k1 => k_asm); (case k2 => k_asm); (case k3 => k_asm); (case k4 => k_asm); (case k5 => k_asm); (case k6 => first | exact rfl | assumption); (case st => with_reducible assumption); (case hF => with_reducible assumption); (case hR => with_reducible assumption); (case hS => with_reducible assumption); (case hT => with_reducible assumption); (case d => (first | exact room2 hd rfl | exact room1 hd rfl | exact room0 hd | ktr_room)); (case u => (dsimp only [ktrTop, units_deeper]; first | exact hu | exact room2 hu rfl | exact room1 hu rfl | omega)); refine eps3 ((?_ : All3 _) _ _ _); intros n9 h9 tk9 F9 N9 st9; (try dsimp only)))
  (repeat' (first | (k_here; (with_reducible show wpAny _ _ (call (Value.ref 85) _) _ _ _); k_dflt (refine' geo_rays ?k1 ?k2 ?k3 ?k4 ?k5 ?k6 ?st ?hF ?hR ?hS ?hT ?d ?u ?_; (case k1 => k_asm); (case k2 => k_asm); (case k3 => k_asm); (case k4 => k_asm); (case k5 => k_asm); (case k6 => first | exact rfl | assumption); (case st => with_reducible assumption); (case hF => with_reducible assumption); (case hR => with_reducible assumption); (case hS => with_reducible assumption); (case hT => with_reducible assumption); (case d => (first | exact room2 hd rfl | exact room1 hd rfl | exact room0 hd | ktr_room)); (case u => (dsimp only [ktrTop, units_deeper]; first | exact hu | exact room2 hu rfl | exact room1 hu rfl | omega)); refine eps3 ((?_ : All3 _) _ _ _); intros n9 h9 tk9 F9 N9 st9; (try dsimp only))) | (k_here; (with_reducible show wpAny _ _ (call (Value.ref 92) _) _ _ _); k_dflt (refine' geo_pawns ?k1 ?k2 ?k3 ?k4 ?k5 ?k6 ?st ?hF ?hR ?hS ?hT ?d ?u ?_; (case k1 => k_asm); (case k2 => k_asm); (case k3 => k_asm); (case k4 => k_asm); (case k5 => k_asm); (case k6 => first | exact rfl | assumption); (case st => with_reducible assumption); (case hF => with_reducible assumption); (case hR => with_reducible assumption); (case hS => with_reducible assumption); (case hT => with_reducible assumption); (case d => (first | exact room2 hd rfl | exact room1 hd rfl | exact room0 hd | ktr_room)); (case u => (dsimp only [ktrTop, units_deeper]; first | exact hu | exact room2 hu rfl | exact room1 hu rfl | omega)); refine eps3 ((?_ : All3 _) _ _ _); intros n9 h9 tk9 F9 N9 st9; (try dsimp only))) | (k_here; (with_reducible show wpAny _ _ (call (Value.ref 99) _) _ _ _); k_dflt (refine' geo_knights ?k1 ?k2 ?k3 ?k4 ?k5 ?k6 ?st ?hF ?hR ?hS ?hT ?d ?u ?_; (case k1 => k_asm); (case k2 => k_asm); (case k3 => k_asm); (case k4 => k_asm); (case k5 => k_asm); (case k6 => first | exact rfl | assumption); (case st => with_reducible assumption); (case hF => with_reducible assumption); (case hR => with_reducible assumption); (case hS => with_reducible assumption); (case hT => with_reducible assumption); (case d => (first | exact room2 hd rfl | exact room1 hd rfl | exact room0 hd | ktr_room)); (case u => (dsimp only [ktrTop, units_deeper]; first | exact hu | exact room2 hu rfl | exact room1 hu rfl | omega)); refine eps3 ((?_ : All3 _) _ _ _); intros n9 h9 tk9 F9 N9 st9; (try dsimp only))) | (k_here; (with_reducible show wpAny _ _ (call (Value.ref 106) _) _ _ _); k_dflt (refine' geo_castles ?k1 ?k2 ?k3 ?k4 ?k5 ?k6 ?st ?hF ?hR ?hS ?hT ?d ?u ?_; (case k1 => k_asm); (case k2 => k_asm); (case k3 => k_asm); (case k4 => k_asm); (case k5 => k_asm); (case k6 => first | exact rfl | assumption); (case st => with_reducible assumption); (case hF => with_reducible assumption); (case hR => with_reducible assumption); (case hS => with_reducible assumption); (case hT => with_reducible assumption); (case d => (first | exact room2 hd rfl | exact room1 hd rfl | exact room0 hd | ktr_room)); (case u => (dsimp only [ktrTop, units_deeper]; first | exact hu | exact room2 hu rfl | exact room1 hu rfl | omega)); refine eps3 ((?_ : All3 _) _ _ _); intros n9 h9 tk9 F9 N9 st9; (try dsimp only))) | (k_end; wrow_close) | walk1 | (dsimp only; walk1) | (leave1; (try dsimp only)) | fail "no step"))
  with_reducible rename GeoOk _ _ _ _ _ => hgo
  with_reducible rename Heap.StaysIn _ _ => hstay
  with_reducible rename News h₀ L _ _ => kN9
  with_reducible rename News s.heap _ _ _ => iN9
  exact hret _ _ _ _ (by k_asm) (news_app kN9 (stays_news N hstay)) (news_off N iN9) hgo
theorem geo_c {w : World} {p : Program} {loose : List Str} {mean : ExcName → Option Value} {mg mb : Str → Option Value}
  {dp un : Nat} {gd : Option (List Code)} {cn : Str} {cs : Scope} {a : Addr} {ccd : Value} {cl : List (Str × Addr)} {outer : List Env} {A₀ : Around} {base h₀ : Heap} {L : Addr} {m : Str → Option Value} {s : Shared} {Q E : Value → Shared → Prop}
  {news : List (Addr × Obj)} {F R : Int} {t1 t2 : Tok}
  (B : Below A₀ base outer h₀) (Fr0 : Fr h₀ L s.heap m) (X : (hd.heap_39 w.params).In h₀) (N : News h₀ L s.heap news) (Tp : Top p loose mean mg mb h₀) (hk : cs.kind = .function)
  (hF : 3 ≤ F ∧ F ≤ 6) (hR : 3 ≤ R ∧ R ≤ 6) (hS : F * R ≤ 36) (hS0 : 9 ≤ F * R)
  (hd : dp + 8 < recursionLimit) (hu : un + 80 < cLine)
  (hret : ∀ (g : Addr) (G : List (Addr × Obj)) (h' : Heap) (tk' : Nat), Fr h₀ L h' m → News h₀ L h' (G ++ news) → (∀ p ∈ G, ∀ q ∈ news, p.1 ≠ q.1) → GeoOk G g F R (tabsOf F R) → Q (.ref g) { s with heap := h', toks := tk' }) :
  wpAny (model PySem.Challenge.rw_tg0014_01.row.toRowW.1 w) (ktrTop dp un gd cn cs L a ccd cl outer) (call (.ref 113) [.int F t1, .int R t2, .bool false, .bool false]) Q E s :=
  geo_c_q ⟨⟨w, p, loose, mean, mg, mb, dp, un, gd, cn, cs, a, ccd, cl, outer, A₀, base, h₀, L, m, s, Q, E, news, 0, F, R, ⟨fun _ => [], [], [], [], []⟩, 0, [], 0⟩, t1, t2⟩ B Fr0 X N Tp hk hF hR hS hS0 hd hu hret
end

theorem and_cast (a b : Nat) : Builtin.bitAnd (a : Int) (b : Int) = ((a &&& b : Nat) : Int) := by
  rw [bitAnd_pp (Int.natCast_nonneg a) (Int.natCast_nonneg b)]; simp
theorem or_cast (a b : Nat) : Builtin.bitOr (a : Int) (b : Int) = ((a ||| b : Nat) : Int) := by
  rw [bitOr_and, and_cast]
  have := nat_or_add_and a b
  omega
theorem nat_xor_add_and (m n : Nat) : (m ^^^ n) + (m &&& n) = (m ||| n) := by
  have h := nat_or_add_and (m ^^^ n) (m &&& n)
  have e1 : (m ^^^ n) ||| (m &&& n) = m ||| n := Nat.eq_of_testBit_eq fun i => by
    rw [Nat.testBit_or, Nat.testBit_xor, Nat.testBit_and, Nat.testBit_or]
    cases m.testBit i <;> cases n.testBit i <;> rfl
  have e2 : (m ^^^ n) &&& (m &&& n) = 0 := Nat.eq_of_testBit_eq fun i => by
    rw [Nat.testBit_and, Nat.testBit_xor, Nat.testBit_and, Nat.zero_testBit]
    cases m.testBit i <;> cases n.testBit i <;> rfl
  rw [e1, e2, Nat.add_zero] at h
  exact h.symm
theorem xor_cast (a b : Nat) : Builtin.bitXor (a : Int) (b : Int) = ((a ^^^ b : Nat) : Int) := by
  unfold Builtin.bitXor
  rw [or_cast, and_cast]
  have := nat_xor_add_and a b
  omega
theorem and_not_cast (r s : Nat) : Builtin.bitAnd (r : Int) (Builtin.bitNot (s : Int)) = ((r ^^^ (r &&& s) : Nat) : Int) := by
  rw [bitAnd_not, and_cast]
  have h := nat_xor_add_and r (r &&& s)
  have h2 := nat_or_add_and r (r &&& s)
  have h3 : r &&& (r &&& s) = r &&& s := by rw [← Nat.and_assoc, Nat.and_self]
  rw [h3] at h h2
  omega
theorem shr_cast (a k : Nat) : ((a : Int)).fdiv (2 ^ k) = ((a / 2 ^ k : Nat) : Int) := by
  rw [Int.fdiv_eq_ediv_of_nonneg _ (Int.le_of_lt (Int.pow_pos (by decide)))]
  push_cast
  rfl
theorem hasBit_nat (x k : Nat) : hasBit (x : Int) (k : Int) = x.testBit k := by
  unfold hasBit
  rw [Int.toNat_natCast, shr_cast, bitAnd_m1, Nat.testBit_eq_decide_div_mod_eq]
  by_cases h : x / 2 ^ k % 2 = 1
  · rw [decide_eq_true h]
    exact beq_iff_eq.mpr (by omega)
  · rw [decide_eq_false h]
    exact beq_eq_false_iff_ne.mpr (by omega)

def smearN (stop : Nat) : Nat :=
  let b0 := stop / 2
  let b1 := b0 ||| b0 / 2
  let b2 := b1 ||| b1 / 4
  let b3 := b2 ||| b2 / 16
  let b4 := b3 ||| b3 / 256
  let b5 := b4 ||| b4 / 65536
  b5 ||| b5 / 4294967296
theorem smear_cast (s : Nat) : smear (s : Int) = (smearN s : Int) := by
  unfold smear smearN
  have e1 : ((2 : Int) ^ (1 : Int).toNat) = 2 ^ 1 := rfl
  have e2 : ((2 : Int) ^ (2 : Int).toNat) = 2 ^ 2 := rfl
  have e4 : ((2 : Int) ^ (4 : Int).toNat) = 2 ^ 4 := rfl
  have e8 : ((2 : Int) ^ (8 : Int).toNat) = 2 ^ 8 := rfl
  have e16 : ((2 : Int) ^ (16 : Int).toNat) = 2 ^ 16 := rfl
  have e32 : ((2 : Int) ^ (32 : Int).toNat) = 2 ^ 32 := rfl
  simp only [e1, e2, e4, e8, e16, e32, shr_cast, or_cast]
theorem smear_lt {s q : Nat} (h : s < 2 ^ (q + 1)) : smearN s < 2 ^ q := by
  have up : ∀ {b k : Nat}, b < 2 ^ q → b ||| b / k < 2 ^ q := fun {b k} hb => Nat.or_lt_two_pow hb (Nat.lt_of_le_of_lt (Nat.div_le_self b k) hb)
  have h0 : s / 2 < 2 ^ q := by rw [Nat.pow_succ] at h; omega
  unfold smearN
  exact up (up (up (up (up (up h0)))))

def rayAttN (g : Bool) (r m : Nat) : Nat :=
  if r &&& m = 0 then r
  else if g then r &&& ((r &&& m) ^^^ ((r &&& m) - 1))
  else r ^^^ (r &&& smearN (r &&& m))
theorem ray_cast (g : Bool) (r m : Nat) : rayAtt g (r : Int) (m : Int) = (rayAttN g r m : Int) := by
  unfold rayAtt rayAttN
  simp only [and_cast]
  by_cases h : r &&& m = 0
  · rw [if_pos h, h]; rfl
  · have h' : ¬ (((r &&& m : Nat) : Int) = 0) := by omega
    rw [if_neg h, if_neg h']
    cases g with
    | true =>
      have e : (((r &&& m : Nat) : Int) - 1) = (((r &&& m) - 1 : Nat) : Int) := by omega
      simp only [if_true]
      rw [e, xor_cast, and_cast]
    | false =>
      simp only [Bool.false_eq_true, if_false]
      rw [smear_cast, and_not_cast]
theorem ray_sub {g : Bool} {r m i : Nat} (h : (rayAttN g r m).testBit i = true) : r.testBit i = true := by
  unfold rayAttN at h
  split at h
  · exact h
  · split at h
    · rw [Nat.testBit_and, Bool.and_eq_true] at h
      exact h.1
    · rw [Nat.testBit_xor, Nat.testBit_and] at h
      cases hr : r.testBit i with
      | true => rfl
      | false => rw [hr] at h; simp at h
theorem and_mod_zero {r m k : Nat} (h : r % 2 ^ k = 0) : (r &&& m) % 2 ^ k = 0 := by
  rw [Nat.and_mod_two_pow, h, Nat.zero_and]
theorem low_bit {s q : Nat} (h0 : s ≠ 0) (h : s % 2 ^ q = 0) : (s ^^^ (s - 1)).testBit q = true := by
  have hp : 0 < 2 ^ q := Nat.two_pow_pos q
  have hs : s = 2 ^ q * (s / 2 ^ q) := by
    have := Nat.div_add_mod s (2 ^ q)
    omega
  have hm : s / 2 ^ q ≠ 0 := fun e => by rw [e, Nat.mul_zero] at hs; exact h0 hs
  obtain ⟨k, hk⟩ : ∃ k, s / 2 ^ q = k + 1 := Nat.exists_eq_succ_of_ne_zero hm
  have h1 : (s - 1) / 2 ^ q = k := by
    rw [hk, Nat.mul_succ] at hs
    have e : s - 1 = (2 ^ q - 1) + 2 ^ q * k := by omega
    rw [e, Nat.add_mul_div_left _ _ hp, Nat.div_eq_of_lt (by omega), Nat.zero_add]
  rw [Nat.testBit_xor, Nat.testBit_eq_decide_div_mod_eq, Nat.testBit_eq_decide_div_mod_eq, h1, hk]
  by_cases hk2 : k % 2 = 1
  · have : ¬ (k + 1) % 2 = 1 := by omega
    rw [decide_eq_true hk2, decide_eq_false this]; rfl
  · have : (k + 1) % 2 = 1 := by omega
    rw [decide_eq_false hk2, decide_eq_true this]; rfl
theorem ray_up {r m q : Nat} (hb : r.testBit q = true) (h : r % 2 ^ q = 0) : (rayAttN true r m).testBit q = true := by
  unfold rayAttN
  split
  · exact hb
  · next h0 =>
    rw [if_pos rfl, Nat.testBit_and, hb, Bool.true_and]
    exact low_bit h0 (and_mod_zero h)
theorem ray_down {r m q : Nat} (hb : r.testBit q = true) (h : r < 2 ^ (q + 1)) : (rayAttN false r m).testBit q = true := by
  unfold rayAttN
  split
  · exact hb
  · rw [if_neg (by decide), Nat.testBit_xor, Nat.testBit_and, hb, Bool.true_and]
    have hl : r &&& m < 2 ^ (q + 1) := Nat.lt_of_le_of_lt Nat.and_le_left h
    rw [Nat.testBit_lt_two_pow (smear_lt hl)]
    rfl

def absd (a b : Nat) : Nat := (a - b) + (b - a)
def distN (f x y : Nat) : Nat := if absd (x / f) (y / f) < absd (x % f) (y % f) then absd (x % f) (y % f) else absd (x / f) (y / f)
def unN (f x y : Nat) : Nat := ((y % f + y / f) % 2 + (x % f + x / f) % 2) % 2
theorem fmod_cast (x f : Nat) : (x : Int).fmod (f : Int) = ((x % f : Nat) : Int) := by
  rw [Int.fmod_eq_emod_of_nonneg _ (Int.natCast_nonneg f), Int.natCast_emod]
theorem fdiv_cast (x f : Nat) : (x : Int).fdiv (f : Int) = ((x / f : Nat) : Int) := by
  rw [Int.fdiv_eq_ediv_of_nonneg _ (Int.natCast_nonneg f), Int.natCast_ediv]
theorem abs_cast (a b : Nat) : absV ((a : Int) - (b : Int)) = (absd a b : Int) := by
  unfold absV absd
  split <;> omega
theorem dist_cast (f x y : Nat) : distV (f : Int) (x : Int) (y : Int) = (distN f x y : Int) := by
  unfold distV distN
  simp only [fmod_cast, fdiv_cast, abs_cast]
  by_cases h : absd (x / f) (y / f) < absd (x % f) (y % f)
  · rw [if_pos h, if_pos (by omega)]
  · rw [if_neg h, if_neg (by omega)]
theorem un_cast (f x y : Nat) : unlikeV (f : Int) (x : Int) (y : Int) = (unN f x y : Int) := by
  unfold unlikeV colourV unN
  simp only [fmod_cast, fdiv_cast, bitAnd_m1]
  rw [show ((2 : Int)) = ((2 : Nat) : Int) from rfl]
  rw [← Int.natCast_add, ← Int.natCast_add, ← Int.natCast_emod, ← Int.natCast_emod, ← Int.natCast_add, fmod_cast]
theorem range_cast (n : Nat) : rangeKs 0 n = (List.range n).map Int.ofNat := by
  unfold rangeKs
  refine List.map_congr_left fun i _ => ?_
  rw [Int.zero_add]; rfl
def seenN (n x : Nat) : List Nat := (List.range n).filter x.testBit
def nearN (f n s : Nat) : List Nat := (List.range n).filter fun q => distN f s q == 1
theorem filter_cast {p : Int → Bool} {q : Nat → Bool} (h : ∀ i : Nat, p (i : Int) = q i) (l : List Nat) : (l.map Int.ofNat).filter p = (l.filter q).map Int.ofNat := by
  rw [List.filter_map]
  refine congrArg _ (List.filter_congr fun i _ => h i)
theorem seen_cast {T : Tabs} {n : Nat} {side kind sq occ : Int} {x : Nat} (h : pieceV T side kind sq occ = (x : Int)) : seenV T n side kind sq occ = (seenN n x).map Int.ofNat := by
  unfold seenV seenN
  rw [range_cast, h]
  exact filter_cast (fun i => hasBit_nat x i) _
theorem beq_cast (a b : Nat) : ((a : Int) == (b : Int)) = (a == b) := by
  by_cases h : a = b
  · subst h; simp
  · rw [beq_eq_false_iff_ne.mpr h, beq_eq_false_iff_ne.mpr (by omega)]
theorem near_cast (f n s : Nat) : nearV (f : Int) n (s : Int) = (nearN f n s).map Int.ofNat := by
  unfold nearV nearN
  rw [range_cast]
  exact filter_cast (fun i => by rw [dist_cast]; exact beq_cast _ 1) _

/-- the nearest square of a ray -/
def firstN (g : Bool) (r q : Nat) : Bool := r.testBit q && (if g then r % 2 ^ q == 0 else decide (r < 2 ^ (q + 1)))
theorem first_att {g : Bool} {r q m : Nat} (h : firstN g r q = true) : (rayAttN g r m).testBit q = true := by
  unfold firstN at h
  rw [Bool.and_eq_true] at h
  cases g with
  | true => exact ray_up h.1 (by simpa using h.2)
  | false => exact ray_down h.1 (by simpa using h.2)
/-- four rays -/
def fourN (g0 g1 g2 g3 : Bool) (r0 r1 r2 r3 m : Nat) : Nat := (((0 ||| rayAttN g0 r0 m) ||| rayAttN g1 r1 m) ||| rayAttN g2 r2 m) ||| rayAttN g3 r3 m
def unionN (r0 r1 r2 r3 : Nat) : Nat := ((r0 ||| r1) ||| r2) ||| r3
theorem four_sub {g0 g1 g2 g3 : Bool} {r0 r1 r2 r3 m q : Nat} (h : (fourN g0 g1 g2 g3 r0 r1 r2 r3 m).testBit q = true) : (unionN r0 r1 r2 r3).testBit q = true := by
  unfold fourN at h
  unfold unionN
  simp only [Nat.testBit_or, Nat.zero_testBit, Bool.false_or, Bool.or_eq_true] at h ⊢
  rcases h with ((h | h) | h) | h
  · exact .inl (.inl (.inl (ray_sub h)))
  · exact .inl (.inl (.inr (ray_sub h)))
  · exact .inl (.inr (ray_sub h))
  · exact .inr (ray_sub h)
theorem four_first {g0 g1 g2 g3 : Bool} {r0 r1 r2 r3 m q : Nat} (h : (firstN g0 r0 q || firstN g1 r1 q || firstN g2 r2 q || firstN g3 r3 q) = true) : (fourN g0 g1 g2 g3 r0 r1 r2 r3 m).testBit q = true := by
  unfold fourN
  simp only [Nat.testBit_or, Nat.zero_testBit, Bool.false_or, Bool.or_eq_true] at h ⊢
  rcases h with ((h | h) | h) | h
  · exact .inl (.inl (.inl (first_att h)))
  · exact .inl (.inl (.inr (first_att h)))
  · exact .inl (.inr (first_att h))
  · exact .inr (first_att h)

/-- what is decided of a square -/
def okSq (f n s kg kn p0 p1 r0 r1 r2 r3 r4 r5 r6 r7 : Nat) (nb : List Nat) : Bool :=
  (seenN n kg == nb) && (nearN f n s == nb) && (seenN n kn == (List.range n).filter fun q => distN f s q == 2 && unN f s q == 1) &&
  (seenN n p0 ++ seenN n p1).isPerm (nb.filter fun q => unN f s q == 0) &&
  (List.range n).all fun q =>
    (!(unionN r4 r5 r6 r7).testBit q || unN f s q == 0) && (!(unionN r0 r1 r2 r3).testBit q || (unN f s q + distN f s q) % 2 == 0) && !((unionN r4 r5 r6 r7).testBit q && (unionN r0 r1 r2 r3).testBit q) &&
    (!(distN f s q == 1) || (if unN f s q == 0 then firstN true r4 q || firstN false r5 q || firstN false r6 q || firstN true r7 q else firstN true r0 q || firstN true r1 q || firstN false r2 q || firstN false r3 q))
def okWay (f n s : Nat) (nb : List Nat) : Bool :=
  !nb.isEmpty && (List.range n).all fun e => if s = e then distN f s e == 0 else (nb.all fun q => decide (distN f s e ≤ 1 + distN f q e)) && nb.any fun q => distN f s e == 1 + distN f q e
def okAll (f n : Nat) (rays : List (List Nat)) (king knight p0 p1 : List Nat) (nbs : List (List Nat)) : Bool :=
  (List.range n).all fun s => okWay f n s (nbs.getD s []) && okSq f n s (king.getD s 0) (knight.getD s 0) (p0.getD s 0) (p1.getD s 0) ((rays.getD 0 []).getD s 0) ((rays.getD 1 []).getD s 0) ((rays.getD 2 []).getD s 0) ((rays.getD 3 []).getD s 0) ((rays.getD 4 []).getD s 0) ((rays.getD 5 []).getD s 0) ((rays.getD 6 []).getD s 0) ((rays.getD 7 []).getD s 0) (nbs.getD s [])

/-- the tables, written out -/
structure IsTab (F R : Int) (rays : List (List Nat)) (king knight p0 p1 : List Nat) : Prop where
  ray : ∀ d, d < 8 → rayTab F R d = (rays.getD d []).map Int.ofNat
  king : kingAt F R 8 = king.map Int.ofNat
  knight : knightTab F R = knight.map Int.ofNat
  pawn0 : pawnTab (F * R) (kingAt F R 8) (rayTab F R 4) (rayTab F R 7) = p0.map Int.ofNat
  pawn1 : pawnTab (F * R) (kingAt F R 8) (rayTab F R 5) (rayTab F R 6) = p1.map Int.ofNat
theorem getD_cast (l : List Nat) (i : Nat) : (l.map Int.ofNat).getD i 0 = ((l.getD i 0 : Nat) : Int) := by
  rw [List.getD_eq_getElem?_getD, List.getD_eq_getElem?_getD, List.getElem?_map]
  cases l[i]? <;> rfl
theorem map_nil_of {l : List Nat} {p : Nat → Bool} (h : ∀ q ∈ l, p q = false) : l.filter p = [] := List.filter_eq_nil_iff.mpr fun q hq => by rw [h q hq]; decide
theorem any_cast (l : List Nat) (q : Nat) : ((l.map Int.ofNat).any fun x => x == (q : Int)) = (l.any fun x => x == q) := by
  rw [List.any_map]
  congr 1
  funext x
  exact beq_cast x q
theorem or_perm {α : Type} (p q : α → Bool) : ∀ l : List α, (∀ x ∈ l, (p x && q x) = false) → (l.filter p ++ l.filter q).Perm (l.filter fun x => q x || p x)
  | [], _ => List.Perm.refl _
  | x :: l, h => by
    have ih := or_perm p q l fun y hy => h y (.tail _ hy)
    have hx := h x (.head _)
    cases hp : p x <;> cases hq : q x <;> rw [hp, hq] at hx
    · simp only [List.filter_cons, hp, hq, Bool.false_eq_true, if_false, Bool.or_self]
      exact ih
    · simp only [List.filter_cons, hp, hq, Bool.false_eq_true, if_false, if_true, Bool.or_false, Bool.true_or]
      exact List.perm_middle.trans (ih.cons x)
    · simp only [List.filter_cons, hp, hq, Bool.false_eq_true, if_false, if_true, Bool.false_or, Bool.or_true, List.cons_append]
      exact ih.cons x
    · exact absurd hx (by decide)

section
variable {F R : Int} {f n s m : Nat} {rays : List (List Nat)} {king knight p0 p1 : List Nat} {nbs : List (List Nat)}
def rN (rays : List (List Nat)) (d s : Nat) : Nat := (rays.getD d []).getD s 0
theorem ray_tab (t : IsTab F R rays king knight p0 p1) (d : Nat) (hd : d < 8) : rayV (tabsOf F R) (d : Int) (s : Int) (m : Int) = (rayAttN (growing d) (rN rays d s) m : Int) := by
  have h : ((tabsOf F R).ray ((d : Int)).toNat).getD ((s : Int)).toNat 0 = ((rN rays d s : Nat) : Int) := by
    show (rayTab F R ((d : Int)).toNat).getD ((s : Int)).toNat 0 = _
    rw [Int.toNat_natCast, Int.toNat_natCast, t.ray d hd, getD_cast]
    rfl
  unfold rayV
  rw [h, ray_cast]
theorem zero_or (x : Nat) : Builtin.bitOr 0 (x : Int) = ((0 ||| x : Nat) : Int) := or_cast 0 x
def bN (rays : List (List Nat)) (s m : Nat) : Nat := fourN true false false true (rN rays 4 s) (rN rays 5 s) (rN rays 6 s) (rN rays 7 s) m
def kN (rays : List (List Nat)) (s m : Nat) : Nat := fourN true true false false (rN rays 0 s) (rN rays 1 s) (rN rays 2 s) (rN rays 3 s) m
theorem bishop_tab (t : IsTab F R rays king knight p0 p1) : bishopV (tabsOf F R) (s : Int) (m : Int) = (bN rays s m : Int) := by
  have e4 := ray_tab (s := s) (m := m) t 4 (by decide)
  have e5 := ray_tab (s := s) (m := m) t 5 (by decide)
  have e6 := ray_tab (s := s) (m := m) t 6 (by decide)
  have e7 := ray_tab (s := s) (m := m) t 7 (by decide)
  unfold bishopV
  rw [show ((4 : Int)) = ((4 : Nat) : Int) from rfl, show ((5 : Int)) = ((5 : Nat) : Int) from rfl, show ((6 : Int)) = ((6 : Nat) : Int) from rfl, show ((7 : Int)) = ((7 : Nat) : Int) from rfl, e4, e5, e6, e7, zero_or, or_cast, or_cast, or_cast]
  rfl
theorem rook_tab (t : IsTab F R rays king knight p0 p1) : rookV (tabsOf F R) (s : Int) (m : Int) = (kN rays s m : Int) := by
  have e0 := ray_tab (s := s) (m := m) t 0 (by decide)
  have e1 := ray_tab (s := s) (m := m) t 1 (by decide)
  have e2 := ray_tab (s := s) (m := m) t 2 (by decide)
  have e3 := ray_tab (s := s) (m := m) t 3 (by decide)
  have d0 : rayV (tabsOf F R) 0 (s : Int) (m : Int) = _ := e0
  have d1 : rayV (tabsOf F R) 1 (s : Int) (m : Int) = _ := e1
  have d2 : rayV (tabsOf F R) 2 (s : Int) (m : Int) = _ := e2
  have d3 : rayV (tabsOf F R) 3 (s : Int) (m : Int) = _ := e3
  unfold rookV
  rw [d0, d1, d2, d3, zero_or, or_cast, or_cast, or_cast]
  rfl
theorem piece_king (t : IsTab F R rays king knight p0 p1) (side occ : Int) : pieceV (tabsOf F R) side 6 (s : Int) occ = ((king.getD s 0 : Nat) : Int) := by
  show (kingAt F R 8).getD ((s : Int)).toNat 0 = _
  rw [Int.toNat_natCast, t.king, getD_cast]
theorem piece_knight (t : IsTab F R rays king knight p0 p1) (side occ : Int) : pieceV (tabsOf F R) side 2 (s : Int) occ = ((knight.getD s 0 : Nat) : Int) := by
  show (knightTab F R).getD ((s : Int)).toNat 0 = _
  rw [Int.toNat_natCast, t.knight, getD_cast]
theorem piece_p0 (t : IsTab F R rays king knight p0 p1) (occ : Int) : pieceV (tabsOf F R) 0 1 (s : Int) occ = ((p0.getD s 0 : Nat) : Int) := by
  show (pawnTab (F * R) (kingAt F R 8) (rayTab F R 4) (rayTab F R 7)).getD ((s : Int)).toNat 0 = _
  rw [Int.toNat_natCast, t.pawn0, getD_cast]
theorem piece_p1 (t : IsTab F R rays king knight p0 p1) (occ : Int) : pieceV (tabsOf F R) 1 1 (s : Int) occ = ((p1.getD s 0 : Nat) : Int) := by
  show (pawnTab (F * R) (kingAt F R 8) (rayTab F R 5) (rayTab F R 6)).getD ((s : Int)).toNat 0 = _
  rw [Int.toNat_natCast, t.pawn1, getD_cast]
theorem piece_bishop (t : IsTab F R rays king knight p0 p1) (side : Int) : pieceV (tabsOf F R) side 3 (s : Int) (m : Int) = (bN rays s m : Int) := bishop_tab t
theorem piece_rook (t : IsTab F R rays king knight p0 p1) (side : Int) : pieceV (tabsOf F R) side 4 (s : Int) (m : Int) = (kN rays s m : Int) := rook_tab t
theorem piece_queen (t : IsTab F R rays king knight p0 p1) (side : Int) : pieceV (tabsOf F R) side 5 (s : Int) (m : Int) = ((kN rays s m ||| bN rays s m : Nat) : Int) := by
  show Builtin.bitOr (rookV _ _ _) (bishopV _ _ _) = _
  rw [rook_tab t, bishop_tab t, or_cast]

theorem un_lt (f x y : Nat) : unN f x y < 2 := Nat.mod_lt _ (by decide)
theorem col_of (t : IsTab F R rays king knight p0 p1) (hf : F = (f : Int)) (ok : okAll f n rays king knight p0 p1 nbs = true) (hs : s < n) : Coloured (tabsOf F R) F n (s : Int) (m : Int) := by
  have h1 := List.all_eq_true.mp ok s (List.mem_range.mpr hs)
  rw [Bool.and_eq_true] at h1
  have h2 := h1.2
  unfold okSq at h2
  simp only [Bool.and_eq_true, beq_iff_eq] at h2
  obtain ⟨⟨⟨⟨g1, g2⟩, g3⟩, g4⟩, g5⟩ := h2
  have g6 : ∀ q, q < n → _ := fun q hq => List.all_eq_true.mp g5 q (List.mem_range.mpr hq)
  have bi : ∀ q, q < n → (bN rays s m).testBit q = true → unN f s q = 0 := fun q hq hb => by
    have h := g6 q hq
    simp only [Bool.and_eq_true] at h
    have hb' : (unionN (rN rays 4 s) (rN rays 5 s) (rN rays 6 s) (rN rays 7 s)).testBit q = true := four_sub hb
    have h0 := h.1.1.1
    unfold rN at hb'
    rw [hb'] at h0
    simpa using h0
  have ri : ∀ q, q < n → (kN rays s m).testBit q = true → (unN f s q + distN f s q) % 2 = 0 := fun q hq hb => by
    have h := g6 q hq
    simp only [Bool.and_eq_true] at h
    have hb' : (unionN (rN rays 0 s) (rN rays 1 s) (rN rays 2 s) (rN rays 3 s)).testBit q = true := four_sub hb
    have h0 := h.1.1.2
    unfold rN at hb'
    rw [hb'] at h0
    simpa using h0
  have dj : ∀ q, q < n → ((bN rays s m).testBit q && (kN rays s m).testBit q) = false := fun q hq => by
    have h := g6 q hq
    simp only [Bool.and_eq_true] at h
    cases hb : (bN rays s m).testBit q with
    | false => rfl
    | true =>
      cases hk : (kN rays s m).testBit q with
      | false => rfl
      | true =>
        have hb' : (unionN (rN rays 4 s) (rN rays 5 s) (rN rays 6 s) (rN rays 7 s)).testBit q = true := four_sub hb
        have hk' : (unionN (rN rays 0 s) (rN rays 1 s) (rN rays 2 s) (rN rays 3 s)).testBit q = true := four_sub hk
        have h0 := h.1.2
        unfold rN at hb' hk'
        rw [hb', hk'] at h0
        exact absurd h0 (by decide)
  have nb : ∀ q, q < n → distN f s q = 1 → unN f s q = 0 → (bN rays s m).testBit q = true := fun q hq hd hu => by
    have h := g6 q hq
    simp only [Bool.and_eq_true] at h
    have h0 := h.2
    rw [hd, hu] at h0
    exact four_first h0
  have nr : ∀ q, q < n → distN f s q = 1 → unN f s q = 1 → (kN rays s m).testBit q = true := fun q hq hd hu => by
    have h := g6 q hq
    simp only [Bool.and_eq_true] at h
    have h0 := h.2
    rw [hd, hu] at h0
    exact four_first h0
  subst hf
  have mem : ∀ q, q ∈ List.range n → q < n := fun q hq => List.mem_range.mp hq
  have inS : ∀ {x q : Nat}, q ∈ seenN n x → q < n ∧ x.testBit q = true := fun {x q} hq => by
    unfold seenN at hq
    rw [List.mem_filter] at hq
    exact ⟨List.mem_range.mp hq.1, hq.2⟩
  have anyN : ∀ q, q < n → ((nearN f n s).any fun x => x == q) = (distN f s q == 1) := fun q hq => by
    cases hd : (distN f s q == 1) with
    | true =>
      refine List.any_eq_true.mpr ⟨q, ?_, beq_self_eq_true q⟩
      unfold nearN
      exact List.mem_filter.mpr ⟨List.mem_range.mpr hq, hd⟩
    | false =>
      refine List.any_eq_false.mpr fun x hx hxq => ?_
      have e : x = q := by simpa using hxq
      subst e
      unfold nearN at hx
      rw [List.mem_filter, hd] at hx
      exact absurd hx.2 (by decide)
  have uc : ∀ (k : Nat) (q : Nat), (unlikeV (f : Int) (s : Int) (q : Int) == (k : Int)) = (unN f s q == k) := fun k q => by rw [un_cast]; exact beq_cast _ _
  constructor
  · rw [seen_cast (piece_king t 0 _), near_cast, g1, g2]
  · rw [seen_cast (piece_bishop t 0), filter_cast (q := fun q => unN f s q == 1) (fun q => uc 1 q), map_nil_of]
    · rfl
    · intro q hq
      obtain ⟨hq1, hq2⟩ := inS hq
      rw [bi q hq1 hq2]; rfl
  · rw [seen_cast (piece_rook t 0), filter_cast (q := fun q => (unN f s q + distN f s q) % 2 == 1), map_nil_of]
    · rfl
    · intro q hq
      obtain ⟨hq1, hq2⟩ := inS hq
      rw [ri q hq1 hq2]; rfl
    · intro q
      rw [un_cast, dist_cast, ← Int.natCast_add, show ((2 : Int)) = ((2 : Nat) : Int) from rfl, fmod_cast]
      exact beq_cast _ 1
  · rw [seen_cast (piece_bishop t 0), near_cast, filter_cast (q := fun q => (nearN f n s).any fun x => x == q) (fun q => any_cast _ q), filter_cast (q := fun q => unN f s q == 0) (fun q => uc 0 q)]
    refine congrArg _ ?_
    unfold seenN nearN
    rw [List.filter_filter, List.filter_filter]
    refine List.filter_congr fun q hq => ?_
    have hq := mem q hq
    have ha := anyN q hq
    unfold nearN at ha
    rw [ha]
    by_cases hd : distN f s q = 1
    · by_cases hu : unN f s q = 0
      · rw [nb q hq hd hu, hd, hu]; rfl
      · have hb : (bN rays s m).testBit q = false := by
          cases hb : (bN rays s m).testBit q with
          | false => rfl
          | true => exact absurd (bi q hq hb) hu
        rw [hb, beq_eq_false_iff_ne.mpr hu]; simp
    · rw [beq_eq_false_iff_ne.mpr hd]; simp
  · rw [seen_cast (piece_rook t 0), near_cast, filter_cast (q := fun q => (nearN f n s).any fun x => x == q) (fun q => any_cast _ q), filter_cast (q := fun q => unN f s q == 1) (fun q => uc 1 q)]
    refine congrArg _ ?_
    unfold seenN nearN
    rw [List.filter_filter, List.filter_filter]
    refine List.filter_congr fun q hq => ?_
    have hq := mem q hq
    have ha := anyN q hq
    unfold nearN at ha
    rw [ha]
    by_cases hd : distN f s q = 1
    · by_cases hu : unN f s q = 1
      · rw [nr q hq hd hu, hd, hu]; rfl
      · have hb : (kN rays s m).testBit q = false := by
          cases hb : (kN rays s m).testBit q with
          | false => rfl
          | true =>
            have h1 := ri q hq hb
            have h2 := un_lt f s q
            rw [hd] at h1
            omega
        rw [hb, beq_eq_false_iff_ne.mpr hu]; simp
    · rw [beq_eq_false_iff_ne.mpr hd]; simp
  · rw [seen_cast (piece_p0 t _), seen_cast (piece_p1 t _), near_cast, g2, filter_cast (q := fun q => unN f s q == 0) (fun q => uc 0 q), ← List.map_append]
    exact (List.isPerm_iff.mp g4).map _
  · rw [seen_cast (piece_knight t 0 _), g3, range_cast]
    refine (filter_cast (fun q => ?_) _).symm
    rw [show (unlikeV (f : Int) (s : Int) (q : Int) == 1) = (unN f s q == 1) from uc 1 q, dist_cast]
    congr 1
    exact beq_cast _ 2
  · rw [seen_cast (piece_bishop t 0), seen_cast (piece_rook t 0), seen_cast (piece_queen t 0), ← List.map_append]
    refine List.Perm.map _ ?_
    unfold seenN
    have e : (kN rays s m ||| bN rays s m).testBit = fun q => (kN rays s m).testBit q || (bN rays s m).testBit q := by
      funext q; exact Nat.testBit_or ..
    rw [e]
    exact or_perm _ _ _ fun q hq => dj q (mem q hq)

theorem way_of (t : IsTab F R rays king knight p0 p1) (hf : F = (f : Int)) (ok : okAll f n rays king knight p0 p1 nbs = true) (hs : s < n) :
    0 < (seenV (tabsOf F R) n 0 6 (s : Int) 0).length ∧ ∀ e : Nat, e < n → ∀ M, M ∈ (seenV (tabsOf F R) n 0 6 (s : Int) 0).map (fun q => distV F q (e : Int)) → (∀ a ∈ (seenV (tabsOf F R) n 0 6 (s : Int) 0).map (fun q => distV F q (e : Int)), M ≤ a) → distV F (s : Int) (e : Int) = if (s : Int) = (e : Int) then 0 else 1 + M := by
  subst hf
  have h1 := List.all_eq_true.mp ok s (List.mem_range.mpr hs)
  rw [Bool.and_eq_true] at h1
  have h2 := h1.2
  have hw := h1.1
  unfold okSq at h2
  simp only [Bool.and_eq_true, beq_iff_eq] at h2
  obtain ⟨⟨⟨⟨g1, -⟩, -⟩, -⟩, -⟩ := h2
  unfold okWay at hw
  rw [Bool.and_eq_true] at hw
  obtain ⟨w1, w2⟩ := hw
  rw [seen_cast (piece_king t 0 _), g1]
  generalize nbs.getD s [] = nb at *
  constructor
  · rw [List.length_map]
    cases nb with
    | nil => exact absurd w1 (by decide)
    | cons q l => exact Nat.succ_pos _
  · intro e he M hM hmin
    have h3 := List.all_eq_true.mp w2 e (List.mem_range.mpr he)
    rw [List.map_map] at hM hmin
    obtain ⟨q, hq, rfl⟩ := List.mem_map.mp hM
    by_cases hse : s = e
    · subst hse
      rw [if_pos rfl] at h3
      rw [if_pos rfl, dist_cast]
      have : distN f s s = 0 := by simpa using h3
      rw [this]; rfl
    · rw [if_neg hse, Bool.and_eq_true] at h3
      rw [if_neg (by omega)]
      obtain ⟨h4, h5⟩ := h3
      have h6 := List.all_eq_true.mp h4 q hq
      obtain ⟨q2, hq2, h7⟩ := List.any_eq_true.mp h5
      have h8 := hmin _ (List.mem_map.mpr ⟨q2, hq2, rfl⟩)
      have c1 : distV (f : Int) (Int.ofNat q) (e : Int) = (distN f q e : Int) := dist_cast f q e
      have c2 : distV (f : Int) (Int.ofNat q2) (e : Int) = (distN f q2 e : Int) := dist_cast f q2 e
      simp only [Function.comp_apply, c1, c2] at h8 ⊢
      rw [dist_cast]
      have h9 : distN f s e ≤ 1 + distN f q e := by simpa using h6
      have h10 : distN f s e = 1 + distN f q2 e := by simpa using h7
      omega
end

section
set_option maxRecDepth 100000
theorem tab_chain {F R : Int} {k r : List (List Nat)} (h0 : kingAt F R 0 = (k.getD 0 []).map Int.ofNat)
    (h : ((List.range 8).all fun d => turnV F R (d : Int) ((k.getD d []).map Int.ofNat) == ((r.getD d []).map Int.ofNat, (k.getD (d + 1) []).map Int.ofNat)) = true) : ∀ d, d ≤ 8 → kingAt F R d = (k.getD d []).map Int.ofNat
  | 0, _ => h0
  | d + 1, hd => by
    have ih := tab_chain h0 h d (by omega)
    have h1 := List.all_eq_true.mp h d (List.mem_range.mpr (by omega))
    have h2 := congrArg Prod.snd (eq_of_beq h1)
    show (turnV F R (d : Int) (kingAt F R d)).2 = _
    rw [ih]
    exact h2
theorem isTab_mk {F R : Int} {k r : List (List Nat)} {kn p0 p1 : List Nat} (h0 : kingAt F R 0 = (k.getD 0 []).map Int.ofNat)
    (h : ((List.range 8).all fun d => turnV F R (d : Int) ((k.getD d []).map Int.ofNat) == ((r.getD d []).map Int.ofNat, (k.getD (d + 1) []).map Int.ofNat)) = true)
    (hk : knightTab F R = kn.map Int.ofNat) (hp0 : pawnTab (F * R) ((k.getD 8 []).map Int.ofNat) ((r.getD 4 []).map Int.ofNat) ((r.getD 7 []).map Int.ofNat) = p0.map Int.ofNat)
    (hp1 : pawnTab (F * R) ((k.getD 8 []).map Int.ofNat) ((r.getD 5 []).map Int.ofNat) ((r.getD 6 []).map Int.ofNat) = p1.map Int.ofNat) : IsTab F R r (k.getD 8 []) kn p0 p1 := by
  have hr : ∀ d, d < 8 → rayTab F R d = (r.getD d []).map Int.ofNat := fun d hd => by
    have h1 := List.all_eq_true.mp h d (List.mem_range.mpr hd)
    have h2 := congrArg Prod.fst (eq_of_beq h1)
    show (turnV F R (d : Int) (kingAt F R d)).1 = _
    rw [tab_chain h0 h d (by omega)]
    exact h2
  have hk8 := tab_chain h0 h 8 (Nat.le_refl 8)
  exact ⟨hr, hk8, hk, by rw [hk8, hr 4 (by decide), hr 7 (by decide)]; exact hp0, by rw [hk8, hr 5 (by decide), hr 6 (by decide)]; exact hp1⟩
noncomputable def rays33 : List (List Nat) := [[72, 144, 288, 64, 128, 256, 0, 0, 0], [6, 4, 0, 48, 32, 0, 384, 256, 0], [0, 0, 0, 1, 2, 4, 9, 18, 36], [0, 1, 3, 0, 8, 24, 0, 64, 192], [272, 32, 0, 128, 256, 0, 0, 0, 0], [0, 0, 0, 2, 4, 0, 20, 32, 0], [0, 0, 0, 0, 1, 2, 0, 8, 17], [0, 8, 80, 0, 64, 128, 0, 0, 0]]
noncomputable def kings33 : List (List Nat) := [[0, 0, 0, 0, 0, 0, 0, 0, 0], [8, 16, 32, 64, 128, 256, 0, 0, 0], [10, 20, 32, 80, 160, 256, 128, 256, 0], [10, 20, 32, 81, 162, 260, 136, 272, 32], [10, 21, 34, 81, 170, 276, 136, 336, 160], [26, 53, 34, 209, 426, 276, 136, 336, 160], [26, 53, 34, 211, 430, 276, 152, 368, 160], [26, 53, 34, 211, 431, 278, 152, 376, 176], [26, 61, 50, 211, 495, 406, 152, 376, 176]]
noncomputable def kn33 : List Nat := [160, 320, 136, 260, 0, 65, 34, 5, 10]
noncomputable def pw33 : List Nat := [16, 40, 16, 128, 320, 128, 0, 0, 0]
noncomputable def pb33 : List Nat := [0, 0, 0, 2, 5, 2, 16, 40, 16]
noncomputable def nb33 : List (List Nat) := [[1, 3, 4], [0, 2, 3, 4, 5], [1, 4, 5], [0, 1, 4, 6, 7], [0, 1, 2, 3, 5, 6, 7, 8], [1, 2, 4, 7, 8], [3, 4, 7], [3, 4, 5, 6, 8], [4, 5, 7]]
theorem tab_33 : IsTab 3 3 rays33 (kings33.getD 8 []) kn33 pw33 pb33 := isTab_mk (by decide +kernel) (by decide +kernel) (by decide +kernel) (by decide +kernel) (by decide +kernel)
theorem ok_33 : okAll 3 9 rays33 (kings33.getD 8 []) kn33 pw33 pb33 nb33 = true := by decide +kernel
noncomputable def rays34 : List (List Nat) := [[584, 1168, 2336, 576, 1152, 2304, 512, 1024, 2048, 0, 0, 0], [6, 4, 0, 48, 32, 0, 384, 256, 0, 3072, 2048, 0], [0, 0, 0, 1, 2, 4, 9, 18, 36, 73, 146, 292], [0, 1, 3, 0, 8, 24, 0, 64, 192, 0, 512, 1536], [272, 32, 0, 2176, 256, 0, 1024, 2048, 0, 0, 0, 0], [0, 0, 0, 2, 4, 0, 20, 32, 0, 160, 256, 0], [0, 0, 0, 0, 1, 2, 0, 8, 17, 0, 64, 136], [0, 8, 80, 0, 64, 640, 0, 512, 1024, 0, 0, 0]]
noncomputable def kings34 : List (List Nat) := [[0, 0, 0, 0, 0, 0, 0, 0, 0, 0, 0, 0], [8, 16, 32, 64, 128, 256, 512, 1024, 2048, 0, 0, 0], [10, 20, 32, 80, 160, 256, 640, 1280, 2048, 1024, 2048, 0], [10, 20, 32, 81, 162, 260, 648, 1296, 2080, 1088, 2176, 256], [10, 21, 34, 81, 170, 276, 648, 1360, 2208, 1088, 2688, 1280], [26, 53, 34, 209, 426, 276, 1672, 3408, 2208, 1088, 2688, 1280], [26, 53, 34, 211, 430, 276, 1688, 3440, 2208, 1216, 2944, 1280], [26, 53, 34, 211, 431, 278, 1688, 3448, 2224, 1216, 3008, 1408], [26, 61, 50, 211, 495, 406, 1688, 3960, 3248, 1216, 3008, 1408]]
noncomputable def kn34 : List Nat := [160, 320, 136, 1284, 2560, 1089, 2082, 5, 522, 272, 40, 80]
noncomputable def pw34 : List Nat := [16, 40, 16, 128, 320, 128, 1024, 2560, 1024, 0, 0, 0]
noncomputable def pb34 : List Nat := [0, 0, 0, 2, 5, 2, 16, 40, 16, 128, 320, 128]
noncomputable def nb34 : List (List Nat) := [[1, 3, 4], [0, 2, 3, 4, 5], [1, 4, 5], [0, 1, 4, 6, 7], [0, 1, 2, 3, 5, 6, 7, 8], [1, 2, 4, 7, 8], [3, 4, 7, 9, 10], [3, 4, 5, 6, 8, 9, 10, 11], [4, 5, 7, 10, 11], [6, 7, 10], [6, 7, 8, 9, 11], [7, 8, 10]]
theorem tab_34 : IsTab 3 4 rays34 (kings34.getD 8 []) kn34 pw34 pb34 := isTab_mk (by decide +kernel) (by decide +kernel) (by decide +kernel) (by decide +kernel) (by decide +kernel)
theorem ok_34 : okAll 3 12 rays34 (kings34.getD 8 []) kn34 pw34 pb34 nb34 = true := by decide +kernel
noncomputable def rays35 : List (List Nat) := [[4680, 9360, 18720, 4672, 9344, 18688, 4608, 9216, 18432, 4096, 8192, 16384, 0, 0, 0], [6, 4, 0, 48, 32, 0, 384, 256, 0, 3072, 2048, 0, 24576, 16384, 0], [0, 0, 0, 1, 2, 4, 9, 18, 36, 73, 146, 292, 585, 1170, 2340], [0, 1, 3, 0, 8, 24, 0, 64, 192, 0, 512, 1536, 0, 4096, 12288], [272, 32, 0, 2176, 256, 0, 17408, 2048, 0, 8192, 16384, 0, 0, 0, 0], [0, 0, 0, 2, 4, 0, 20, 32, 0, 160, 256, 0, 1280, 2048, 0], [0, 0, 0, 0, 1, 2, 0, 8, 17, 0, 64, 136, 0, 512, 1088], [0, 8, 80, 0, 64, 640, 0, 512, 5120, 0, 4096, 8192, 0, 0, 0]]
noncomputable def kings35 : List (List Nat) := [[0, 0, 0, 0, 0, 0, 0, 0, 0, 0, 0, 0, 0, 0, 0], [8, 16, 32, 64, 128, 256, 512, 1024, 2048, 4096, 8192, 16384, 0, 0, 0], [10, 20, 32, 80, 160, 256, 640, 1280, 2048, 5120, 10240, 16384, 8192, 16384, 0], [10, 20, 32, 81, 162, 260, 648, 1296, 2080, 5184, 10368, 16640, 8704, 17408, 2048], [10, 21, 34, 81, 170, 276, 648, 1360, 2208, 5184, 10880, 17664, 8704, 21504, 10240], [26, 53, 34, 209, 426, 276, 1672, 3408, 2208, 13376, 27264, 17664, 8704, 21504, 10240], [26, 53, 34, 211, 430, 276, 1688, 3440, 2208, 13504, 27520, 17664, 9728, 23552, 10240], [26, 53, 34, 211, 431, 278, 1688, 3448, 2224, 13504, 27584, 17792, 9728, 24064, 11264], [26, 61, 50, 211, 495, 406, 1688, 3960, 3248, 13504, 31680, 25984, 9728, 24064, 11264]]
noncomputable def kn35 : List Nat := [160, 320, 136, 1284, 2560, 1089, 10274, 20485, 8714, 16656, 40, 4176, 2176, 320, 640]
noncomputable def pw35 : List Nat := [16, 40, 16, 128, 320, 128, 1024, 2560, 1024, 8192, 20480, 8192, 0, 0, 0]
noncomputable def pb35 : List Nat := [0, 0, 0, 2, 5, 2, 16, 40, 16, 128, 320, 128, 1024, 2560, 1024]
noncomputable def nb35 : List (List Nat) := [[1, 3, 4], [0, 2, 3, 4, 5], [1, 4, 5], [0, 1, 4, 6, 7], [0, 1, 2, 3, 5, 6, 7, 8], [1, 2, 4, 7, 8], [3, 4, 7, 9, 10], [3, 4, 5, 6, 8, 9, 10, 11], [4, 5, 7, 10, 11], [6, 7, 10, 12, 13], [6, 7, 8, 9, 11, 12, 13, 14], [7, 8, 10, 13, 14], [9, 10, 13], [9, 10, 11, 12, 14], [10, 11, 13]]
theorem tab_35 : IsTab 3 5 rays35 (kings35.getD 8 []) kn35 pw35 pb35 := isTab_mk (by decide +kernel) (by decide +kernel) (by decide +kernel) (by decide +kernel) (by decide +kernel)
theorem ok_35 : okAll 3 15 rays35 (kings35.getD 8 []) kn35 pw35 pb35 nb35 = true := by decide +kernel
noncomputable def rays36 : List (List Nat) := [[37448, 74896, 149792, 37440, 74880, 149760, 37376, 74752, 149504, 36864, 73728, 147456, 32768, 65536, 131072, 0, 0, 0], [6, 4, 0, 48, 32, 0, 384, 256, 0, 3072, 2048, 0, 24576, 16384, 0, 196608, 131072, 0], [0, 0, 0, 1, 2, 4, 9, 18, 36, 73, 146, 292, 585, 1170, 2340, 4681, 9362, 18724], [0, 1, 3, 0, 8, 24, 0, 64, 192, 0, 512, 1536, 0, 4096, 12288, 0, 32768, 98304], [272, 32, 0, 2176, 256, 0, 17408, 2048, 0, 139264, 16384, 0, 65536, 131072, 0, 0, 0, 0], [0, 0, 0, 2, 4, 0, 20, 32, 0, 160, 256, 0, 1280, 2048, 0, 10240, 16384, 0], [0, 0, 0, 0, 1, 2, 0, 8, 17, 0, 64, 136, 0, 512, 1088, 0, 4096, 8704], [0, 8, 80, 0, 64, 640, 0, 512, 5120, 0, 4096, 40960, 0, 32768, 65536, 0, 0, 0]]
noncomputable def kings36 : List (List Nat) := [[0, 0, 0, 0, 0, 0, 0, 0, 0, 0, 0, 0, 0, 0, 0, 0, 0, 0], [8, 16, 32, 64, 128, 256, 512, 1024, 2048, 4096, 8192, 16384, 32768, 65536, 131072, 0, 0, 0], [10, 20, 32, 80, 160, 256, 640, 1280, 2048, 5120, 10240, 16384, 40960, 81920, 131072, 65536, 131072, 0], [10, 20, 32, 81, 162, 260, 648, 1296, 2080, 5184, 10368, 16640, 41472, 82944, 133120, 69632, 139264, 16384], [10, 21, 34, 81, 170, 276, 648, 1360, 2208, 5184, 10880, 17664, 41472, 87040, 141312, 69632, 172032, 81920], [26, 53, 34, 209, 426, 276, 1672, 3408, 2208, 13376, 27264, 17664, 107008, 218112, 141312, 69632, 172032, 81920], [26, 53, 34, 211, 430, 276, 1688, 3440, 2208, 13504, 27520, 17664, 108032, 220160, 141312, 77824, 188416, 81920], [26, 53, 34, 211, 431, 278, 1688, 3448, 2224, 13504, 27584, 17792, 108032, 220672, 142336, 77824, 192512, 90112], [26, 61, 50, 211, 495, 406, 1688, 3960, 3248, 13504, 31680, 25984, 108032, 253440, 207872, 77824, 192512, 90112]]
noncomputable def kn36 : List Nat := [160, 320, 136, 1284, 2560, 1089, 10274, 20485, 8714, 82192, 163880, 69712, 133248, 320, 33408, 17408, 2560, 5120]
noncomputable def pw36 : List Nat := [16, 40, 16, 128, 320, 128, 1024, 2560, 1024, 8192, 20480, 8192, 65536, 163840, 65536, 0, 0, 0]
noncomputable def pb36 : List Nat := [0, 0, 0, 2, 5, 2, 16, 40, 16, 128, 320, 128, 1024, 2560, 1024, 8192, 20480, 8192]
noncomputable def nb36 : List (List Nat) := [[1, 3, 4], [0, 2, 3, 4, 5], [1, 4, 5], [0, 1, 4, 6, 7], [0, 1, 2, 3, 5, 6, 7, 8], [1, 2, 4, 7, 8], [3, 4, 7, 9, 10], [3, 4, 5, 6, 8, 9, 10, 11], [4, 5, 7, 10, 11], [6, 7, 10, 12, 13], [6, 7, 8, 9, 11, 12, 13, 14], [7, 8, 10, 13, 14], [9, 10, 13, 15, 16], [9, 10, 11, 12, 14, 15, 16, 17], [10, 11, 13, 16, 17], [12, 13, 16], [12, 13, 14, 15, 17], [13, 14, 16]]
theorem tab_36 : IsTab 3 6 rays36 (kings36.getD 8 []) kn36 pw36 pb36 := isTab_mk (by decide +kernel) (by decide +kernel) (by decide +kernel) (by decide +kernel) (by decide +kernel)
theorem ok_36 : okAll 3 18 rays36 (kings36.getD 8 []) kn36 pw36 pb36 nb36 = true := by decide +kernel
noncomputable def rays43 : List (List Nat) := [[272, 544, 1088, 2176, 256, 512, 1024, 2048, 0, 0, 0, 0], [14, 12, 8, 0, 224, 192, 128, 0, 3584, 3072, 2048, 0], [0, 0, 0, 0, 1, 2, 4, 8, 17, 34, 68, 136], [0, 1, 3, 7, 0, 16, 48, 112, 0, 256, 768, 1792], [1056, 2112, 128, 0, 512, 1024, 2048, 0, 0, 0, 0, 0], [0, 0, 0, 0, 2, 4, 8, 0, 36, 72, 128, 0], [0, 0, 0, 0, 0, 1, 2, 4, 0, 16, 33, 66], [0, 16, 288, 576, 0, 256, 512, 1024, 0, 0, 0, 0]]
noncomputable def kings43 : List (List Nat) := [[0, 0, 0, 0, 0, 0, 0, 0, 0, 0, 0, 0], [16, 32, 64, 128, 256, 512, 1024, 2048, 0, 0, 0, 0], [18, 36, 72, 128, 288, 576, 1152, 2048, 512, 1024, 2048, 0], [18, 36, 72, 128, 289, 578, 1156, 2056, 528, 1056, 2112, 128], [18, 37, 74, 132, 289, 594, 1188, 2120, 528, 1312, 2624, 1152], [50, 101, 202, 132, 801, 1618, 3236, 2120, 528, 1312, 2624, 1152], [50, 101, 202, 132, 803, 1622, 3244, 2120, 560, 1376, 2752, 1152], [50, 101, 202, 132, 803, 1623, 3246, 2124, 560, 1392, 2784, 1216], [50, 117, 234, 196, 803, 1879, 3758, 3148, 560, 1392, 2784, 1216]]
noncomputable def kn43 : List Nat := [576, 1408, 2576, 1056, 1028, 2056, 257, 514, 66, 133, 26, 36]
noncomputable def pw43 : List Nat := [32, 80, 160, 64, 512, 1280, 2560, 1024, 0, 0, 0, 0]
noncomputable def pb43 : List Nat := [0, 0, 0, 0, 2, 5, 10, 4, 32, 80, 160, 64]
noncomputable def nb43 : List (List Nat) := [[1, 4, 5], [0, 2, 4, 5, 6], [1, 3, 5, 6, 7], [2, 6, 7], [0, 1, 5, 8, 9], [0, 1, 2, 4, 6, 8, 9, 10], [1, 2, 3, 5, 7, 9, 10, 11], [2, 3, 6, 10, 11], [4, 5, 9], [4, 5, 6, 8, 10], [5, 6, 7, 9, 11], [6, 7, 10]]
theorem tab_43 : IsTab 4 3 rays43 (kings43.getD 8 []) kn43 pw43 pb43 := isTab_mk (by decide +kernel) (by decide +kernel) (by decide +kernel) (by decide +kernel) (by decide +kernel)
theorem ok_43 : okAll 4 12 rays43 (kings43.getD 8 []) kn43 pw43 pb43 nb43 = true := by decide +kernel
noncomputable def rays44 : List (List Nat) := [[4368, 8736, 17472, 34944, 4352, 8704, 17408, 34816, 4096, 8192, 16384, 32768, 0, 0, 0, 0], [14, 12, 8, 0, 224, 192, 128, 0, 3584, 3072, 2048, 0, 57344, 49152, 32768, 0], [0, 0, 0, 0, 1, 2, 4, 8, 17, 34, 68, 136, 273, 546, 1092, 2184], [0, 1, 3, 7, 0, 16, 48, 112, 0, 256, 768, 1792, 0, 4096, 12288, 28672], [33824, 2112, 128, 0, 16896, 33792, 2048, 0, 8192, 16384, 32768, 0, 0, 0, 0, 0], [0, 0, 0, 0, 2, 4, 8, 0, 36, 72, 128, 0, 584, 1152, 2048, 0], [0, 0, 0, 0, 0, 1, 2, 4, 0, 16, 33, 66, 0, 256, 528, 1057], [0, 16, 288, 4672, 0, 256, 4608, 9216, 0, 4096, 8192, 16384, 0, 0, 0, 0]]
noncomputable def kings44 : List (List Nat) := [[0, 0, 0, 0, 0, 0, 0, 0, 0, 0, 0, 0, 0, 0, 0, 0], [16, 32, 64, 128, 256, 512, 1024, 2048, 4096, 8192, 16384, 32768, 0, 0, 0, 0], [18, 36, 72, 128, 288, 576, 1152, 2048, 4608, 9216, 18432, 32768, 8192, 16384, 32768, 0], [18, 36, 72, 128, 289, 578, 1156, 2056, 4624, 9248, 18496, 32896, 8448, 16896, 33792, 2048], [18, 37, 74, 132, 289, 594, 1188, 2120, 4624, 9504, 19008, 33920, 8448, 20992, 41984, 18432], [50, 101, 202, 132, 801, 1618, 3236, 2120, 12816, 25888, 51776, 33920, 8448, 20992, 41984, 18432], [50, 101, 202, 132, 803, 1622, 3244, 2120, 12848, 25952, 51904, 33920, 8960, 22016, 44032, 18432], [50, 101, 202, 132, 803, 1623, 3246, 2124, 12848, 25968, 51936, 33984, 8960, 22272, 44544, 19456], [50, 117, 234, 196, 803, 1879, 3758, 3148, 12848, 30064, 60128, 50368, 8960, 22272, 44544, 19456]]
noncomputable def kn44 : List Nat := [576, 1408, 2576, 1056, 9220, 22536, 41217, 16898, 16450, 32901, 4122, 8228, 1056, 2128, 416, 576]
noncomputable def pw44 : List Nat := [32, 80, 160, 64, 512, 1280, 2560, 1024, 8192, 20480, 40960, 16384, 0, 0, 0, 0]
noncomputable def pb44 : List Nat := [0, 0, 0, 0, 2, 5, 10, 4, 32, 80, 160, 64, 512, 1280, 2560, 1024]
noncomputable def nb44 : List (List Nat) := [[1, 4, 5], [0, 2, 4, 5, 6], [1, 3, 5, 6, 7], [2, 6, 7], [0, 1, 5, 8, 9], [0, 1, 2, 4, 6, 8, 9, 10], [1, 2, 3, 5, 7, 9, 10, 11], [2, 3, 6, 10, 11], [4, 5, 9, 12, 13], [4, 5, 6, 8, 10, 12, 13, 14], [5, 6, 7, 9, 11, 13, 14, 15], [6, 7, 10, 14, 15], [8, 9, 13], [8, 9, 10, 12, 14], [9, 10, 11, 13, 15], [10, 11, 14]]
theorem tab_44 : IsTab 4 4 rays44 (kings44.getD 8 []) kn44 pw44 pb44 := isTab_mk (by decide +kernel) (by decide +kernel) (by decide +kernel) (by decide +kernel) (by decide +kernel)
theorem ok_44 : okAll 4 16 rays44 (kings44.getD 8 []) kn44 pw44 pb44 nb44 = true := by decide +kernel
noncomputable def rays45 : List (List Nat) := [[69904, 139808, 279616, 559232, 69888, 139776, 279552, 559104, 69632, 139264, 278528, 557056, 65536, 131072, 262144, 524288, 0, 0, 0, 0], [14, 12, 8, 0, 224, 192, 128, 0, 3584, 3072, 2048, 0, 57344, 49152, 32768, 0, 917504, 786432, 524288, 0], [0, 0, 0, 0, 1, 2, 4, 8, 17, 34, 68, 136, 273, 546, 1092, 2184, 4369, 8738, 17476, 34952], [0, 1, 3, 7, 0, 16, 48, 112, 0, 256, 768, 1792, 0, 4096, 12288, 28672, 0, 65536, 196608, 458752], [33824, 2112, 128, 0, 541184, 33792, 2048, 0, 270336, 540672, 32768, 0, 131072, 262144, 524288, 0, 0, 0, 0, 0], [0, 0, 0, 0, 2, 4, 8, 0, 36, 72, 128, 0, 584, 1152, 2048, 0, 9344, 18432, 32768, 0], [0, 0, 0, 0, 0, 1, 2, 4, 0, 16, 33, 66, 0, 256, 528, 1057, 0, 4096, 8448, 16912], [0, 16, 288, 4672, 0, 256, 4608, 74752, 0, 4096, 73728, 147456, 0, 65536, 131072, 262144, 0, 0, 0, 0]]
noncomputable def kings45 : List (List Nat) := [[0, 0, 0, 0, 0, 0, 0, 0, 0, 0, 0, 0, 0, 0, 0, 0, 0, 0, 0, 0], [16, 32, 64, 128, 256, 512, 1024, 2048, 4096, 8192, 16384, 32768, 65536, 131072, 262144, 524288, 0, 0, 0, 0], [18, 36, 72, 128, 288, 576, 1152, 2048, 4608, 9216, 18432, 32768, 73728, 147456, 294912, 524288, 131072, 262144, 524288, 0], [18, 36, 72, 128, 289, 578, 1156, 2056, 4624, 9248, 18496, 32896, 73984, 147968, 295936, 526336, 135168, 270336, 540672, 32768], [18, 37, 74, 132, 289, 594, 1188, 2120, 4624, 9504, 19008, 33920, 73984, 152064, 304128, 542720, 135168, 335872, 671744, 294912], [50, 101, 202, 132, 801, 1618, 3236, 2120, 12816, 25888, 51776, 33920, 205056, 414208, 828416, 542720, 135168, 335872, 671744, 294912], [50, 101, 202, 132, 803, 1622, 3244, 2120, 12848, 25952, 51904, 33920, 205568, 415232, 830464, 542720, 143360, 352256, 704512, 294912], [50, 101, 202, 132, 803, 1623, 3246, 2124, 12848, 25968, 51936, 33984, 205568, 415488, 830976, 543744, 143360, 356352, 712704, 311296], [50, 117, 234, 196, 803, 1879, 3758, 3148, 12848, 30064, 60128, 50368, 205568, 481024, 962048, 805888, 143360, 356352, 712704, 311296]]
noncomputable def kn45 : List Nat := [576, 1408, 2576, 1056, 9220, 22536, 41217, 16898, 147522, 360581, 659482, 270372, 263200, 526416, 65952, 131648, 16896, 34048, 6656, 9216]
noncomputable def pw45 : List Nat := [32, 80, 160, 64, 512, 1280, 2560, 1024, 8192, 20480, 40960, 16384, 131072, 327680, 655360, 262144, 0, 0, 0, 0]
noncomputable def pb45 : List Nat := [0, 0, 0, 0, 2, 5, 10, 4, 32, 80, 160, 64, 512, 1280, 2560, 1024, 8192, 20480, 40960, 16384]
noncomputable def nb45 : List (List Nat) := [[1, 4, 5], [0, 2, 4, 5, 6], [1, 3, 5, 6, 7], [2, 6, 7], [0, 1, 5, 8, 9], [0, 1, 2, 4, 6, 8, 9, 10], [1, 2, 3, 5, 7, 9, 10, 11], [2, 3, 6, 10, 11], [4, 5, 9, 12, 13], [4, 5, 6, 8, 10, 12, 13, 14], [5, 6, 7, 9, 11, 13, 14, 15], [6, 7, 10, 14, 15], [8, 9, 13, 16, 17], [8, 9, 10, 12, 14, 16, 17, 18], [9, 10, 11, 13, 15, 17, 18, 19], [10, 11, 14, 18, 19], [12, 13, 17], [12, 13, 14, 16, 18], [13, 14, 15, 17, 19], [14, 15, 18]]
theorem tab_45 : IsTab 4 5 rays45 (kings45.getD 8 []) kn45 pw45 pb45 := isTab_mk (by decide +kernel) (by decide +kernel) (by decide +kernel) (by decide +kernel) (by decide +kernel)
theorem ok_45 : okAll 4 20 rays45 (kings45.getD 8 []) kn45 pw45 pb45 nb45 = true := by decide +kernel
noncomputable def rays46 : List (List Nat) := [[1118480, 2236960, 4473920, 8947840, 1118464, 2236928, 4473856, 8947712, 1118208, 2236416, 4472832, 8945664, 1114112, 2228224, 4456448, 8912896, 1048576, 2097152, 4194304, 8388608, 0, 0, 0, 0], [14, 12, 8, 0, 224, 192, 128, 0, 3584, 3072, 2048, 0, 57344, 49152, 32768, 0, 917504, 786432, 524288, 0, 14680064, 12582912, 8388608, 0], [0, 0, 0, 0, 1, 2, 4, 8, 17, 34, 68, 136, 273, 546, 1092, 2184, 4369, 8738, 17476, 34952, 69905, 139810, 279620, 559240], [0, 1, 3, 7, 0, 16, 48, 112, 0, 256, 768, 1792, 0, 4096, 12288, 28672, 0, 65536, 196608, 458752, 0, 1048576, 3145728, 7340032], [33824, 2112, 128, 0, 541184, 33792, 2048, 0, 8658944, 540672, 32768, 0, 4325376, 8650752, 524288, 0, 2097152, 4194304, 8388608, 0, 0, 0, 0, 0], [0, 0, 0, 0, 2, 4, 8, 0, 36, 72, 128, 0, 584, 1152, 2048, 0, 9344, 18432, 32768, 0, 149504, 294912, 524288, 0], [0, 0, 0, 0, 0, 1, 2, 4, 0, 16, 33, 66, 0, 256, 528, 1057, 0, 4096, 8448, 16912, 0, 65536, 135168, 270592], [0, 16, 288, 4672, 0, 256, 4608, 74752, 0, 4096, 73728, 1196032, 0, 65536, 1179648, 2359296, 0, 1048576, 2097152, 4194304, 0, 0, 0, 0]]
noncomputable def kings46 : List (List Nat) := [[0, 0, 0, 0, 0, 0, 0, 0, 0, 0, 0, 0, 0, 0, 0, 0, 0, 0, 0, 0, 0, 0, 0, 0], [16, 32, 64, 128, 256, 512, 1024, 2048, 4096, 8192, 16384, 32768, 65536, 131072, 262144, 524288, 1048576, 2097152, 4194304, 8388608, 0, 0, 0, 0], [18, 36, 72, 128, 288, 576, 1152, 2048, 4608, 9216, 18432, 32768, 73728, 147456, 294912, 524288, 1179648, 2359296, 4718592, 8388608, 2097152, 4194304, 8388608, 0], [18, 36, 72, 128, 289, 578, 1156, 2056, 4624, 9248, 18496, 32896, 73984, 147968, 295936, 526336, 1183744, 2367488, 4734976, 8421376, 2162688, 4325376, 8650752, 524288], [18, 37, 74, 132, 289, 594, 1188, 2120, 4624, 9504, 19008, 33920, 73984, 152064, 304128, 542720, 1183744, 2433024, 4866048, 8683520, 2162688, 5373952, 10747904, 4718592], [50, 101, 202, 132, 801, 1618, 3236, 2120, 12816, 25888, 51776, 33920, 205056, 414208, 828416, 542720, 3280896, 6627328, 13254656, 8683520, 2162688, 5373952, 10747904, 4718592], [50, 101, 202, 132, 803, 1622, 3244, 2120, 12848, 25952, 51904, 33920, 205568, 415232, 830464, 542720, 3289088, 6643712, 13287424, 8683520, 2293760, 5636096, 11272192, 4718592], [50, 101, 202, 132, 803, 1623, 3246, 2124, 12848, 25968, 51936, 33984, 205568, 415488, 830976, 543744, 3289088, 6647808, 13295616, 8699904, 2293760, 5701632, 11403264, 4980736], [50, 117, 234, 196, 803, 1879, 3758, 3148, 12848, 30064, 60128, 50368, 205568, 481024, 962048, 805888, 3289088, 7696384, 15392768, 12894208, 2293760, 5701632, 11403264, 4980736]]
noncomputable def kn46 : List Nat := [576, 1408, 2576, 1056, 9220, 22536, 41217, 16898, 147522, 360581, 659482, 270372, 2360352, 5769296, 10551712, 4325952, 4211200, 8422656, 1055232, 2106368, 270336, 544768, 106496, 147456]
noncomputable def pw46 : List Nat := [32, 80, 160, 64, 512, 1280, 2560, 1024, 8192, 20480, 40960, 16384, 131072, 327680, 655360, 262144, 2097152, 5242880, 10485760, 4194304, 0, 0, 0, 0]
noncomputable def pb46 : List Nat := [0, 0, 0, 0, 2, 5, 10, 4, 32, 80, 160, 64, 512, 1280, 2560, 1024, 8192, 20480, 40960, 16384, 131072, 327680, 655360, 262144]
noncomputable def nb46 : List (List Nat) := [[1, 4, 5], [0, 2, 4, 5, 6], [1, 3, 5, 6, 7], [2, 6, 7], [0, 1, 5, 8, 9], [0, 1, 2, 4, 6, 8, 9, 10], [1, 2, 3, 5, 7, 9, 10, 11], [2, 3, 6, 10, 11], [4, 5, 9, 12, 13], [4, 5, 6, 8, 10, 12, 13, 14], [5, 6, 7, 9, 11, 13, 14, 15], [6, 7, 10, 14, 15], [8, 9, 13, 16, 17], [8, 9, 10, 12, 14, 16, 17, 18], [9, 10, 11, 13, 15, 17, 18, 19], [10, 11, 14, 18, 19], [12, 13, 17, 20, 21], [12, 13, 14, 16, 18, 20, 21, 22], [13, 14, 15, 17, 19, 21, 22, 23], [14, 15, 18, 22, 23], [16, 17, 21], [16, 17, 18, 20, 22], [17, 18, 19, 21, 23], [18, 19, 22]]
theorem tab_46 : IsTab 4 6 rays46 (kings46.getD 8 []) kn46 pw46 pb46 := isTab_mk (by decide +kernel) (by decide +kernel) (by decide +kernel) (by decide +kernel) (by decide +kernel)
theorem ok_46 : okAll 4 24 rays46 (kings46.getD 8 []) kn46 pw46 pb46 nb46 = true := by decide +kernel
noncomputable def rays53 : List (List Nat) := [[1056, 2112, 4224, 8448, 16896, 1024, 2048, 4096, 8192, 16384, 0, 0, 0, 0, 0], [30, 28, 24, 16, 0, 960, 896, 768, 512, 0, 30720, 28672, 24576, 16384, 0], [0, 0, 0, 0, 0, 1, 2, 4, 8, 16, 33, 66, 132, 264, 528], [0, 1, 3, 7, 15, 0, 32, 96, 224, 480, 0, 1024, 3072, 7168, 15360], [4160, 8320, 16640, 512, 0, 2048, 4096, 8192, 16384, 0, 0, 0, 0, 0, 0], [0, 0, 0, 0, 0, 2, 4, 8, 16, 0, 68, 136, 272, 512, 0], [0, 0, 0, 0, 0, 0, 1, 2, 4, 8, 0, 32, 65, 130, 260], [0, 32, 1088, 2176, 4352, 0, 1024, 2048, 4096, 8192, 0, 0, 0, 0, 0]]
noncomputable def kings53 : List (List Nat) := [[0, 0, 0, 0, 0, 0, 0, 0, 0, 0, 0, 0, 0, 0, 0], [32, 64, 128, 256, 512, 1024, 2048, 4096, 8192, 16384, 0, 0, 0, 0, 0], [34, 68, 136, 272, 512, 1088, 2176, 4352, 8704, 16384, 2048, 4096, 8192, 16384, 0], [34, 68, 136, 272, 512, 1089, 2178, 4356, 8712, 16400, 2080, 4160, 8320, 16640, 512], [34, 69, 138, 276, 520, 1089, 2210, 4420, 8840, 16656, 2080, 5184, 10368, 20736, 8704], [98, 197, 394, 788, 520, 3137, 6306, 12612, 25224, 16656, 2080, 5184, 10368, 20736, 8704], [98, 197, 394, 788, 520, 3139, 6310, 12620, 25240, 16656, 2144, 5312, 10624, 21248, 8704], [98, 197, 394, 788, 520, 3139, 6311, 12622, 25244, 16664, 2144, 5344, 10688, 21376, 8960], [98, 229, 458, 916, 776, 3139, 7335, 14670, 29340, 24856, 2144, 5344, 10688, 21376, 8960]]
noncomputable def kn53 : List Nat := [2176, 5376, 10784, 20544, 8320, 4100, 8200, 17425, 2050, 4100, 130, 261, 554, 84, 136]
noncomputable def pw53 : List Nat := [64, 160, 320, 640, 256, 2048, 5120, 10240, 20480, 8192, 0, 0, 0, 0, 0]
noncomputable def pb53 : List Nat := [0, 0, 0, 0, 0, 2, 5, 10, 20, 8, 64, 160, 320, 640, 256]
noncomputable def nb53 : List (List Nat) := [[1, 5, 6], [0, 2, 5, 6, 7], [1, 3, 6, 7, 8], [2, 4, 7, 8, 9], [3, 8, 9], [0, 1, 6, 10, 11], [0, 1, 2, 5, 7, 10, 11, 12], [1, 2, 3, 6, 8, 11, 12, 13], [2, 3, 4, 7, 9, 12, 13, 14], [3, 4, 8, 13, 14], [5, 6, 11], [5, 6, 7, 10, 12], [6, 7, 8, 11, 13], [7, 8, 9, 12, 14], [8, 9, 13]]
theorem tab_53 : IsTab 5 3 rays53 (kings53.getD 8 []) kn53 pw53 pb53 := isTab_mk (by decide +kernel) (by decide +kernel) (by decide +kernel) (by decide +kernel) (by decide +kernel)
theorem ok_53 : okAll 5 15 rays53 (kings53.getD 8 []) kn53 pw53 pb53 nb53 = true := by decide +kernel
noncomputable def rays54 : List (List Nat) := [[33824, 67648, 135296, 270592, 541184, 33792, 67584, 135168, 270336, 540672, 32768, 65536, 131072, 262144, 524288, 0, 0, 0, 0, 0], [30, 28, 24, 16, 0, 960, 896, 768, 512, 0, 30720, 28672, 24576, 16384, 0, 983040, 917504, 786432, 524288, 0], [0, 0, 0, 0, 0, 1, 2, 4, 8, 16, 33, 66, 132, 264, 528, 1057, 2114, 4228, 8456, 16912], [0, 1, 3, 7, 15, 0, 32, 96, 224, 480, 0, 1024, 3072, 7168, 15360, 0, 32768, 98304, 229376, 491520], [266304, 532608, 16640, 512, 0, 133120, 266240, 532480, 16384, 0, 65536, 131072, 262144, 524288, 0, 0, 0, 0, 0, 0], [0, 0, 0, 0, 0, 2, 4, 8, 16, 0, 68, 136, 272, 512, 0, 2184, 4368, 8704, 16384, 0], [0, 0, 0, 0, 0, 0, 1, 2, 4, 8, 0, 32, 65, 130, 260, 0, 1024, 2080, 4161, 8322], [0, 32, 1088, 34944, 69888, 0, 1024, 34816, 69632, 139264, 0, 32768, 65536, 131072, 262144, 0, 0, 0, 0, 0]]
noncomputable def kings54 : List (List Nat) := [[0, 0, 0, 0, 0, 0, 0, 0, 0, 0, 0, 0, 0, 0, 0, 0, 0, 0, 0, 0], [32, 64, 128, 256, 512, 1024, 2048, 4096, 8192, 16384, 32768, 65536, 131072, 262144, 524288, 0, 0, 0, 0, 0], [34, 68, 136, 272, 512, 1088, 2176, 4352, 8704, 16384, 34816, 69632, 139264, 278528, 524288, 65536, 131072, 262144, 524288, 0], [34, 68, 136, 272, 512, 1089, 2178, 4356, 8712, 16400, 34848, 69696, 139392, 278784, 524800, 66560, 133120, 266240, 532480, 16384], [34, 69, 138, 276, 520, 1089, 2210, 4420, 8840, 16656, 34848, 70720, 141440, 282880, 532992, 66560, 165888, 331776, 663552, 278528], [98, 197, 394, 788, 520, 3137, 6306, 12612, 25224, 16656, 100384, 201792, 403584, 807168, 532992, 66560, 165888, 331776, 663552, 278528], [98, 197, 394, 788, 520, 3139, 6310, 12620, 25240, 16656, 100448, 201920, 403840, 807680, 532992, 68608, 169984, 339968, 679936, 278528], [98, 197, 394, 788, 520, 3139, 6311, 12622, 25244, 16664, 100448, 201952, 403904, 807808, 533248, 68608, 171008, 342016, 684032, 286720], [98, 229, 458, 916, 776, 3139, 7335, 14670, 29340, 24856, 100448, 234720, 469440, 938880, 795392, 68608, 171008, 342016, 684032, 286720]]
noncomputable def kn54 : List Nat := [2176, 5376, 10784, 20544, 8320, 69636, 172040, 345105, 657410, 266244, 131202, 262405, 557610, 65620, 131208, 4160, 8352, 17728, 2688, 4352]
noncomputable def pw54 : List Nat := [64, 160, 320, 640, 256, 2048, 5120, 10240, 20480, 8192, 65536, 163840, 327680, 655360, 262144, 0, 0, 0, 0, 0]
noncomputable def pb54 : List Nat := [0, 0, 0, 0, 0, 2, 5, 10, 20, 8, 64, 160, 320, 640, 256, 2048, 5120, 10240, 20480, 8192]
noncomputable def nb54 : List (List Nat) := [[1, 5, 6], [0, 2, 5, 6, 7], [1, 3, 6, 7, 8], [2, 4, 7, 8, 9], [3, 8, 9], [0, 1, 6, 10, 11], [0, 1, 2, 5, 7, 10, 11, 12], [1, 2, 3, 6, 8, 11, 12, 13], [2, 3, 4, 7, 9, 12, 13, 14], [3, 4, 8, 13, 14], [5, 6, 11, 15, 16], [5, 6, 7, 10, 12, 15, 16, 17], [6, 7, 8, 11, 13, 16, 17, 18], [7, 8, 9, 12, 14, 17, 18, 19], [8, 9, 13, 18, 19], [10, 11, 16], [10, 11, 12, 15, 17], [11, 12, 13, 16, 18], [12, 13, 14, 17, 19], [13, 14, 18]]
theorem tab_54 : IsTab 5 4 rays54 (kings54.getD 8 []) kn54 pw54 pb54 := isTab_mk (by decide +kernel) (by decide +kernel) (by decide +kernel) (by decide +kernel) (by decide +kernel)
theorem ok_54 : okAll 5 20 rays54 (kings54.getD 8 []) kn54 pw54 pb54 nb54 = true := by decide +kernel
noncomputable def rays55 : List (List Nat) := [[1082400, 2164800, 4329600, 8659200, 17318400, 1082368, 2164736, 4329472, 8658944, 17317888, 1081344, 2162688, 4325376, 8650752, 17301504, 1048576, 2097152, 4194304, 8388608, 16777216, 0, 0, 0, 0, 0], [30, 28, 24, 16, 0, 960, 896, 768, 512, 0, 30720, 28672, 24576, 16384, 0, 983040, 917504, 786432, 524288, 0, 31457280, 29360128, 25165824, 16777216, 0], [0, 0, 0, 0, 0, 1, 2, 4, 8, 16, 33, 66, 132, 264, 528, 1057, 2114, 4228, 8456, 16912, 33825, 67650, 135300, 270600, 541200], [0, 1, 3, 7, 15, 0, 32, 96, 224, 480, 0, 1024, 3072, 7168, 15360, 0, 32768, 98304, 229376, 491520, 0, 1048576, 3145728, 7340032, 15728640], [17043520, 532608, 16640, 512, 0, 8521728, 17043456, 532480, 16384, 0, 4259840, 8519680, 17039360, 524288, 0, 2097152, 4194304, 8388608, 16777216, 0, 0, 0, 0, 0, 0], [0, 0, 0, 0, 0, 2, 4, 8, 16, 0, 68, 136, 272, 512, 0, 2184, 4368, 8704, 16384, 0, 69904, 139776, 278528, 524288, 0], [0, 0, 0, 0, 0, 0, 1, 2, 4, 8, 0, 32, 65, 130, 260, 0, 1024, 2080, 4161, 8322, 0, 32768, 66560, 133152, 266305], [0, 32, 1088, 34944, 1118464, 0, 1024, 34816, 1118208, 2236416, 0, 32768, 1114112, 2228224, 4456448, 0, 1048576, 2097152, 4194304, 8388608, 0, 0, 0, 0, 0]]
noncomputable def kings55 : List (List Nat) := [[0, 0, 0, 0, 0, 0, 0, 0, 0, 0, 0, 0, 0, 0, 0, 0, 0, 0, 0, 0, 0, 0, 0, 0, 0], [32, 64, 128, 256, 512, 1024, 2048, 4096, 8192, 16384, 32768, 65536, 131072, 262144, 524288, 1048576, 2097152, 4194304, 8388608, 16777216, 0, 0, 0, 0, 0], [34, 68, 136, 272, 512, 1088, 2176, 4352, 8704, 16384, 34816, 69632, 139264, 278528, 524288, 1114112, 2228224, 4456448, 8912896, 16777216, 2097152, 4194304, 8388608, 16777216, 0], [34, 68, 136, 272, 512, 1089, 2178, 4356, 8712, 16400, 34848, 69696, 139392, 278784, 524800, 1115136, 2230272, 4460544, 8921088, 16793600, 2129920, 4259840, 8519680, 17039360, 524288], [34, 69, 138, 276, 520, 1089, 2210, 4420, 8840, 16656, 34848, 70720, 141440, 282880, 532992, 1115136, 2263040, 4526080, 9052160, 17055744, 2129920, 5308416, 10616832, 21233664, 8912896], [98, 197, 394, 788, 520, 3137, 6306, 12612, 25224, 16656, 100384, 201792, 403584, 807168, 532992, 3212288, 6457344, 12914688, 25829376, 17055744, 2129920, 5308416, 10616832, 21233664, 8912896], [98, 197, 394, 788, 520, 3139, 6310, 12620, 25240, 16656, 100448, 201920, 403840, 807680, 532992, 3214336, 6461440, 12922880, 25845760, 17055744, 2195456, 5439488, 10878976, 21757952, 8912896], [98, 197, 394, 788, 520, 3139, 6311, 12622, 25244, 16664, 100448, 201952, 403904, 807808, 533248, 3214336, 6462464, 12924928, 25849856, 17063936, 2195456, 5472256, 10944512, 21889024, 9175040], [98, 229, 458, 916, 776, 3139, 7335, 14670, 29340, 24856, 100448, 234720, 469440, 938880, 795392, 3214336, 7511040, 15022080, 30044160, 25452544, 2195456, 5472256, 10944512, 21889024, 9175040]]
noncomputable def kn55 : List Nat := [2176, 5376, 10784, 20544, 8320, 69636, 172040, 345105, 657410, 266244, 2228354, 5505285, 11043370, 21037140, 8519816, 4198464, 8396960, 17843520, 2099840, 4198656, 133120, 267264, 567296, 86016, 139264]
noncomputable def pw55 : List Nat := [64, 160, 320, 640, 256, 2048, 5120, 10240, 20480, 8192, 65536, 163840, 327680, 655360, 262144, 2097152, 5242880, 10485760, 20971520, 8388608, 0, 0, 0, 0, 0]
noncomputable def pb55 : List Nat := [0, 0, 0, 0, 0, 2, 5, 10, 20, 8, 64, 160, 320, 640, 256, 2048, 5120, 10240, 20480, 8192, 65536, 163840, 327680, 655360, 262144]
noncomputable def nb55 : List (List Nat) := [[1, 5, 6], [0, 2, 5, 6, 7], [1, 3, 6, 7, 8], [2, 4, 7, 8, 9], [3, 8, 9], [0, 1, 6, 10, 11], [0, 1, 2, 5, 7, 10, 11, 12], [1, 2, 3, 6, 8, 11, 12, 13], [2, 3, 4, 7, 9, 12, 13, 14], [3, 4, 8, 13, 14], [5, 6, 11, 15, 16], [5, 6, 7, 10, 12, 15, 16, 17], [6, 7, 8, 11, 13, 16, 17, 18], [7, 8, 9, 12, 14, 17, 18, 19], [8, 9, 13, 18, 19], [10, 11, 16, 20, 21], [10, 11, 12, 15, 17, 20, 21, 22], [11, 12, 13, 16, 18, 21, 22, 23], [12, 13, 14, 17, 19, 22, 23, 24], [13, 14, 18, 23, 24], [15, 16, 21], [15, 16, 17, 20, 22], [16, 17, 18, 21, 23], [17, 18, 19, 22, 24], [18, 19, 23]]
theorem tab_55 : IsTab 5 5 rays55 (kings55.getD 8 []) kn55 pw55 pb55 := isTab_mk (by decide +kernel) (by decide +kernel) (by decide +kernel) (by decide +kernel) (by decide +kernel)
theorem ok_55 : okAll 5 25 rays55 (kings55.getD 8 []) kn55 pw55 pb55 nb55 = true := by decide +kernel
noncomputable def rays56 : List (List Nat) := [[34636832, 69273664, 138547328, 277094656, 554189312, 34636800, 69273600, 138547200, 277094400, 554188800, 34635776, 69271552, 138543104, 277086208, 554172416, 34603008, 69206016, 138412032, 276824064, 553648128, 33554432, 67108864, 134217728, 268435456, 536870912, 0, 0, 0, 0, 0], [30, 28, 24, 16, 0, 960, 896, 768, 512, 0, 30720, 28672, 24576, 16384, 0, 983040, 917504, 786432, 524288, 0, 31457280, 29360128, 25165824, 16777216, 0, 1006632960, 939524096, 805306368, 536870912, 0], [0, 0, 0, 0, 0, 1, 2, 4, 8, 16, 33, 66, 132, 264, 528, 1057, 2114, 4228, 8456, 16912, 33825, 67650, 135300, 270600, 541200, 1082401, 2164802, 4329604, 8659208, 17318416], [0, 1, 3, 7, 15, 0, 32, 96, 224, 480, 0, 1024, 3072, 7168, 15360, 0, 32768, 98304, 229376, 491520, 0, 1048576, 3145728, 7340032, 15728640, 0, 33554432, 100663296, 234881024, 503316480], [17043520, 532608, 16640, 512, 0, 545392640, 17043456, 532480, 16384, 0, 272695296, 545390592, 17039360, 524288, 0, 136314880, 272629760, 545259520, 16777216, 0, 67108864, 134217728, 268435456, 536870912, 0, 0, 0, 0, 0, 0], [0, 0, 0, 0, 0, 2, 4, 8, 16, 0, 68, 136, 272, 512, 0, 2184, 4368, 8704, 16384, 0, 69904, 139776, 278528, 524288, 0, 2236928, 4472832, 8912896, 16777216, 0], [0, 0, 0, 0, 0, 0, 1, 2, 4, 8, 0, 32, 65, 130, 260, 0, 1024, 2080, 4161, 8322, 0, 32768, 66560, 133152, 266305, 0, 1048576, 2129920, 4260864, 8521760], [0, 32, 1088, 34944, 1118464, 0, 1024, 34816, 1118208, 35790848, 0, 32768, 1114112, 35782656, 71565312, 0, 1048576, 35651584, 71303168, 142606336, 0, 33554432, 67108864, 134217728, 268435456, 0, 0, 0, 0, 0]]
noncomputable def kings56 : List (List Nat) := [[0, 0, 0, 0, 0, 0, 0, 0, 0, 0, 0, 0, 0, 0, 0, 0, 0, 0, 0, 0, 0, 0, 0, 0, 0, 0, 0, 0, 0, 0], [32, 64, 128, 256, 512, 1024, 2048, 4096, 8192, 16384, 32768, 65536, 131072, 262144, 524288, 1048576, 2097152, 4194304, 8388608, 16777216, 33554432, 67108864, 134217728, 268435456, 536870912, 0, 0, 0, 0, 0], [34, 68, 136, 272, 512, 1088, 2176, 4352, 8704, 16384, 34816, 69632, 139264, 278528, 524288, 1114112, 2228224, 4456448, 8912896, 16777216, 35651584, 71303168, 142606336, 285212672, 536870912, 67108864, 134217728, 268435456, 536870912, 0], [34, 68, 136, 272, 512, 1089, 2178, 4356, 8712, 16400, 34848, 69696, 139392, 278784, 524800, 1115136, 2230272, 4460544, 8921088, 16793600, 35684352, 71368704, 142737408, 285474816, 537395200, 68157440, 136314880, 272629760, 545259520, 16777216], [34, 69, 138, 276, 520, 1089, 2210, 4420, 8840, 16656, 34848, 70720, 141440, 282880, 532992, 1115136, 2263040, 4526080, 9052160, 17055744, 35684352, 72417280, 144834560, 289669120, 545783808, 68157440, 169869312, 339738624, 679477248, 285212672], [98, 197, 394, 788, 520, 3137, 6306, 12612, 25224, 16656, 100384, 201792, 403584, 807168, 532992, 3212288, 6457344, 12914688, 25829376, 17055744, 102793216, 206635008, 413270016, 826540032, 545783808, 68157440, 169869312, 339738624, 679477248, 285212672], [98, 197, 394, 788, 520, 3139, 6310, 12620, 25240, 16656, 100448, 201920, 403840, 807680, 532992, 3214336, 6461440, 12922880, 25845760, 17055744, 102858752, 206766080, 413532160, 827064320, 545783808, 70254592, 174063616, 348127232, 696254464, 285212672], [98, 197, 394, 788, 520, 3139, 6311, 12622, 25244, 16664, 100448, 201952, 403904, 807808, 533248, 3214336, 6462464, 12924928, 25849856, 17063936, 102858752, 206798848, 413597696, 827195392, 546045952, 70254592, 175112192, 350224384, 700448768, 293601280], [98, 229, 458, 916, 776, 3139, 7335, 14670, 29340, 24856, 100448, 234720, 469440, 938880, 795392, 3214336, 7511040, 15022080, 30044160, 25452544, 102858752, 240353280, 480706560, 961413120, 814481408, 70254592, 175112192, 350224384, 700448768, 293601280]]
noncomputable def kn56 : List Nat := [2176, 5376, 10784, 20544, 8320, 69636, 172040, 345105, 657410, 266244, 2228354, 5505285, 11043370, 21037140, 8519816, 71307328, 176169120, 353387840, 673188480, 272634112, 134350848, 268702720, 570992640, 67194880, 134356992, 4259840, 8552448, 18153472, 2752512, 4456448]
noncomputable def pw56 : List Nat := [64, 160, 320, 640, 256, 2048, 5120, 10240, 20480, 8192, 65536, 163840, 327680, 655360, 262144, 2097152, 5242880, 10485760, 20971520, 8388608, 67108864, 167772160, 335544320, 671088640, 268435456, 0, 0, 0, 0, 0]
noncomputable def pb56 : List Nat := [0, 0, 0, 0, 0, 2, 5, 10, 20, 8, 64, 160, 320, 640, 256, 2048, 5120, 10240, 20480, 8192, 65536, 163840, 327680, 655360, 262144, 2097152, 5242880, 10485760, 20971520, 8388608]
noncomputable def nb56 : List (List Nat) := [[1, 5, 6], [0, 2, 5, 6, 7], [1, 3, 6, 7, 8], [2, 4, 7, 8, 9], [3, 8, 9], [0, 1, 6, 10, 11], [0, 1, 2, 5, 7, 10, 11, 12], [1, 2, 3, 6, 8, 11, 12, 13], [2, 3, 4, 7, 9, 12, 13, 14], [3, 4, 8, 13, 14], [5, 6, 11, 15, 16], [5, 6, 7, 10, 12, 15, 16, 17], [6, 7, 8, 11, 13, 16, 17, 18], [7, 8, 9, 12, 14, 17, 18, 19], [8, 9, 13, 18, 19], [10, 11, 16, 20, 21], [10, 11, 12, 15, 17, 20, 21, 22], [11, 12, 13, 16, 18, 21, 22, 23], [12, 13, 14, 17, 19, 22, 23, 24], [13, 14, 18, 23, 24], [15, 16, 21, 25, 26], [15, 16, 17, 20, 22, 25, 26, 27], [16, 17, 18, 21, 23, 26, 27, 28], [17, 18, 19, 22, 24, 27, 28, 29], [18, 19, 23, 28, 29], [20, 21, 26], [20, 21, 22, 25, 27], [21, 22, 23, 26, 28], [22, 23, 24, 27, 29], [23, 24, 28]]
theorem tab_56 : IsTab 5 6 rays56 (kings56.getD 8 []) kn56 pw56 pb56 := isTab_mk (by decide +kernel) (by decide +kernel) (by decide +kernel) (by decide +kernel) (by decide +kernel)
theorem ok_56 : okAll 5 30 rays56 (kings56.getD 8 []) kn56 pw56 pb56 nb56 = true := by decide +kernel
noncomputable def rays63 : List (List Nat) := [[4160, 8320, 16640, 33280, 66560, 133120, 4096, 8192, 16384, 32768, 65536, 131072, 0, 0, 0, 0, 0, 0], [62, 60, 56, 48, 32, 0, 3968, 3840, 3584, 3072, 2048, 0, 253952, 245760, 229376, 196608, 131072, 0], [0, 0, 0, 0, 0, 0, 1, 2, 4, 8, 16, 32, 65, 130, 260, 520, 1040, 2080], [0, 1, 3, 7, 15, 31, 0, 64, 192, 448, 960, 1984, 0, 4096, 12288, 28672, 61440, 126976], [16512, 33024, 66048, 132096, 2048, 0, 8192, 16384, 32768, 65536, 131072, 0, 0, 0, 0, 0, 0, 0], [0, 0, 0, 0, 0, 0, 2, 4, 8, 16, 32, 0, 132, 264, 528, 1056, 2048, 0], [0, 0, 0, 0, 0, 0, 0, 1, 2, 4, 8, 16, 0, 64, 129, 258, 516, 1032], [0, 64, 4224, 8448, 16896, 33792, 0, 4096, 8192, 16384, 32768, 65536, 0, 0, 0, 0, 0, 0]]
noncomputable def kings63 : List (List Nat) := [[0, 0, 0, 0, 0, 0, 0, 0, 0, 0, 0, 0, 0, 0, 0, 0, 0, 0], [64, 128, 256, 512, 1024, 2048, 4096, 8192, 16384, 32768, 65536, 131072, 0, 0, 0, 0, 0, 0], [66, 132, 264, 528, 1056, 2048, 4224, 8448, 16896, 33792, 67584, 131072, 8192, 16384, 32768, 65536, 131072, 0], [66, 132, 264, 528, 1056, 2048, 4225, 8450, 16900, 33800, 67600, 131104, 8256, 16512, 33024, 66048, 132096, 2048], [66, 133, 266, 532, 1064, 2064, 4225, 8514, 17028, 34056, 68112, 132128, 8256, 20608, 41216, 82432, 164864, 67584], [194, 389, 778, 1556, 3112, 2064, 12417, 24898, 49796, 99592, 199184, 132128, 8256, 20608, 41216, 82432, 164864, 67584], [194, 389, 778, 1556, 3112, 2064, 12419, 24902, 49804, 99608, 199216, 132128, 8384, 20864, 41728, 83456, 166912, 67584], [194, 389, 778, 1556, 3112, 2064, 12419, 24903, 49806, 99612, 199224, 132144, 8384, 20928, 41856, 83712, 167424, 68608], [194, 453, 906, 1812, 3624, 3088, 12419, 28999, 57998, 115996, 231992, 197680, 8384, 20928, 41856, 83712, 167424, 68608]]
noncomputable def kn63 : List Nat := [8448, 20992, 42048, 84096, 164096, 66048, 16388, 32776, 69649, 139298, 16388, 32776, 258, 517, 1098, 2196, 296, 528]
noncomputable def pw63 : List Nat := [128, 320, 640, 1280, 2560, 1024, 8192, 20480, 40960, 81920, 163840, 65536, 0, 0, 0, 0, 0, 0]
noncomputable def pb63 : List Nat := [0, 0, 0, 0, 0, 0, 2, 5, 10, 20, 40, 16, 128, 320, 640, 1280, 2560, 1024]
noncomputable def nb63 : List (List Nat) := [[1, 6, 7], [0, 2, 6, 7, 8], [1, 3, 7, 8, 9], [2, 4, 8, 9, 10], [3, 5, 9, 10, 11], [4, 10, 11], [0, 1, 7, 12, 13], [0, 1, 2, 6, 8, 12, 13, 14], [1, 2, 3, 7, 9, 13, 14, 15], [2, 3, 4, 8, 10, 14, 15, 16], [3, 4, 5, 9, 11, 15, 16, 17], [4, 5, 10, 16, 17], [6, 7, 13], [6, 7, 8, 12, 14], [7, 8, 9, 13, 15], [8, 9, 10, 14, 16], [9, 10, 11, 15, 17], [10, 11, 16]]
theorem tab_63 : IsTab 6 3 rays63 (kings63.getD 8 []) kn63 pw63 pb63 := isTab_mk (by decide +kernel) (by decide +kernel) (by decide +kernel) (by decide +kernel) (by decide +kernel)
theorem ok_63 : okAll 6 18 rays63 (kings63.getD 8 []) kn63 pw63 pb63 nb63 = true := by decide +kernel
noncomputable def rays64 : List (List Nat) := [[266304, 532608, 1065216, 2130432, 4260864, 8521728, 266240, 532480, 1064960, 2129920, 4259840, 8519680, 262144, 524288, 1048576, 2097152, 4194304, 8388608, 0, 0, 0, 0, 0, 0], [62, 60, 56, 48, 32, 0, 3968, 3840, 3584, 3072, 2048, 0, 253952, 245760, 229376, 196608, 131072, 0, 16252928, 15728640, 14680064, 12582912, 8388608, 0], [0, 0, 0, 0, 0, 0, 1, 2, 4, 8, 16, 32, 65, 130, 260, 520, 1040, 2080, 4161, 8322, 16644, 33288, 66576, 133152], [0, 1, 3, 7, 15, 31, 0, 64, 192, 448, 960, 1984, 0, 4096, 12288, 28672, 61440, 126976, 0, 262144, 786432, 1835008, 3932160, 8126464], [2113664, 4227328, 8454656, 132096, 2048, 0, 1056768, 2113536, 4227072, 8454144, 131072, 0, 524288, 1048576, 2097152, 4194304, 8388608, 0, 0, 0, 0, 0, 0, 0], [0, 0, 0, 0, 0, 0, 2, 4, 8, 16, 32, 0, 132, 264, 528, 1056, 2048, 0, 8456, 16912, 33824, 67584, 131072, 0], [0, 0, 0, 0, 0, 0, 0, 1, 2, 4, 8, 16, 0, 64, 129, 258, 516, 1032, 0, 4096, 8256, 16513, 33026, 66052], [0, 64, 4224, 270592, 541184, 1082368, 0, 4096, 270336, 540672, 1081344, 2162688, 0, 262144, 524288, 1048576, 2097152, 4194304, 0, 0, 0, 0, 0, 0]]
noncomputable def kings64 : List (List Nat) := [[0, 0, 0, 0, 0, 0, 0, 0, 0, 0, 0, 0, 0, 0, 0, 0, 0, 0, 0, 0, 0, 0, 0, 0], [64, 128, 256, 512, 1024, 2048, 4096, 8192, 16384, 32768, 65536, 131072, 262144, 524288, 1048576, 2097152, 4194304, 8388608, 0, 0, 0, 0, 0, 0], [66, 132, 264, 528, 1056, 2048, 4224, 8448, 16896, 33792, 67584, 131072, 270336, 540672, 1081344, 2162688, 4325376, 8388608, 524288, 1048576, 2097152, 4194304, 8388608, 0], [66, 132, 264, 528, 1056, 2048, 4225, 8450, 16900, 33800, 67600, 131104, 270400, 540800, 1081600, 2163200, 4326400, 8390656, 528384, 1056768, 2113536, 4227072, 8454144, 131072], [66, 133, 266, 532, 1064, 2064, 4225, 8514, 17028, 34056, 68112, 132128, 270400, 544896, 1089792, 2179584, 4359168, 8456192, 528384, 1318912, 2637824, 5275648, 10551296, 4325376], [194, 389, 778, 1556, 3112, 2064, 12417, 24898, 49796, 99592, 199184, 132128, 794688, 1593472, 3186944, 6373888, 12747776, 8456192, 528384, 1318912, 2637824, 5275648, 10551296, 4325376], [194, 389, 778, 1556, 3112, 2064, 12419, 24902, 49804, 99608, 199216, 132128, 794816, 1593728, 3187456, 6374912, 12749824, 8456192, 536576, 1335296, 2670592, 5341184, 10682368, 4325376], [194, 389, 778, 1556, 3112, 2064, 12419, 24903, 49806, 99612, 199224, 132144, 794816, 1593792, 3187584, 6375168, 12750336, 8457216, 536576, 1339392, 2678784, 5357568, 10715136, 4390912], [194, 453, 906, 1812, 3624, 3088, 12419, 28999, 57998, 115996, 231992, 197680, 794816, 1855936, 3711872, 7423744, 14847488, 12651520, 536576, 1339392, 2678784, 5357568, 10715136, 4390912]]
noncomputable def kn64 : List Nat := [8448, 20992, 42048, 84096, 164096, 66048, 540676, 1343496, 2691089, 5382178, 10502148, 4227080, 1048834, 2097669, 4457546, 8915092, 1048872, 2097680, 16512, 33088, 70272, 140544, 18944, 33792]
noncomputable def pw64 : List Nat := [128, 320, 640, 1280, 2560, 1024, 8192, 20480, 40960, 81920, 163840, 65536, 524288, 1310720, 2621440, 5242880, 10485760, 4194304, 0, 0, 0, 0, 0, 0]
noncomputable def pb64 : List Nat := [0, 0, 0, 0, 0, 0, 2, 5, 10, 20, 40, 16, 128, 320, 640, 1280, 2560, 1024, 8192, 20480, 40960, 81920, 163840, 65536]
noncomputable def nb64 : List (List Nat) := [[1, 6, 7], [0, 2, 6, 7, 8], [1, 3, 7, 8, 9], [2, 4, 8, 9, 10], [3, 5, 9, 10, 11], [4, 10, 11], [0, 1, 7, 12, 13], [0, 1, 2, 6, 8, 12, 13, 14], [1, 2, 3, 7, 9, 13, 14, 15], [2, 3, 4, 8, 10, 14, 15, 16], [3, 4, 5, 9, 11, 15, 16, 17], [4, 5, 10, 16, 17], [6, 7, 13, 18, 19], [6, 7, 8, 12, 14, 18, 19, 20], [7, 8, 9, 13, 15, 19, 20, 21], [8, 9, 10, 14, 16, 20, 21, 22], [9, 10, 11, 15, 17, 21, 22, 23], [10, 11, 16, 22, 23], [12, 13, 19], [12, 13, 14, 18, 20], [13, 14, 15, 19, 21], [14, 15, 16, 20, 22], [15, 16, 17, 21, 23], [16, 17, 22]]
theorem tab_64 : IsTab 6 4 rays64 (kings64.getD 8 []) kn64 pw64 pb64 := isTab_mk (by decide +kernel) (by decide +kernel) (by decide +kernel) (by decide +kernel) (by decide +kernel)
theorem ok_64 : okAll 6 24 rays64 (kings64.getD 8 []) kn64 pw64 pb64 nb64 = true := by decide +kernel
noncomputable def rays65 : List (List Nat) := [[17043520, 34087040, 68174080, 136348160, 272696320, 545392640, 17043456, 34086912, 68173824, 136347648, 272695296, 545390592, 17039360, 34078720, 68157440, 136314880, 272629760, 545259520, 16777216, 33554432, 67108864, 134217728, 268435456, 536870912, 0, 0, 0, 0, 0, 0], [62, 60, 56, 48, 32, 0, 3968, 3840, 3584, 3072, 2048, 0, 253952, 245760, 229376, 196608, 131072, 0, 16252928, 15728640, 14680064, 12582912, 8388608, 0, 1040187392, 1006632960, 939524096, 805306368, 536870912, 0], [0, 0, 0, 0, 0, 0, 1, 2, 4, 8, 16, 32, 65, 130, 260, 520, 1040, 2080, 4161, 8322, 16644, 33288, 66576, 133152, 266305, 532610, 1065220, 2130440, 4260880, 8521760], [0, 1, 3, 7, 15, 31, 0, 64, 192, 448, 960, 1984, 0, 4096, 12288, 28672, 61440, 126976, 0, 262144, 786432, 1835008, 3932160, 8126464, 0, 16777216, 50331648, 117440512, 251658240, 520093696], [270549120, 541098240, 8454656, 132096, 2048, 0, 135274496, 270548992, 541097984, 8454144, 131072, 0, 67633152, 135266304, 270532608, 541065216, 8388608, 0, 33554432, 67108864, 134217728, 268435456, 536870912, 0, 0, 0, 0, 0, 0, 0], [0, 0, 0, 0, 0, 0, 2, 4, 8, 16, 32, 0, 132, 264, 528, 1056, 2048, 0, 8456, 16912, 33824, 67584, 131072, 0, 541200, 1082400, 2164736, 4325376, 8388608, 0], [0, 0, 0, 0, 0, 0, 0, 1, 2, 4, 8, 16, 0, 64, 129, 258, 516, 1032, 0, 4096, 8256, 16513, 33026, 66052, 0, 262144, 528384, 1056832, 2113665, 4227330], [0, 64, 4224, 270592, 17318400, 34636800, 0, 4096, 270336, 17317888, 34635776, 69271552, 0, 262144, 17301504, 34603008, 69206016, 138412032, 0, 16777216, 33554432, 67108864, 134217728, 268435456, 0, 0, 0, 0, 0, 0]]
noncomputable def kings65 : List (List Nat) := [[0, 0, 0, 0, 0, 0, 0, 0, 0, 0, 0, 0, 0, 0, 0, 0, 0, 0, 0, 0, 0, 0, 0, 0, 0, 0, 0, 0, 0, 0], [64, 128, 256, 512, 1024, 2048, 4096, 8192, 16384, 32768, 65536, 131072, 262144, 524288, 1048576, 2097152, 4194304, 8388608, 16777216, 33554432, 67108864, 134217728, 268435456, 536870912, 0, 0, 0, 0, 0, 0], [66, 132, 264, 528, 1056, 2048, 4224, 8448, 16896, 33792, 67584, 131072, 270336, 540672, 1081344, 2162688, 4325376, 8388608, 17301504, 34603008, 69206016, 138412032, 276824064, 536870912, 33554432, 67108864, 134217728, 268435456, 536870912, 0], [66, 132, 264, 528, 1056, 2048, 4225, 8450, 16900, 33800, 67600, 131104, 270400, 540800, 1081600, 2163200, 4326400, 8390656, 17305600, 34611200, 69222400, 138444800, 276889600, 537001984, 33816576, 67633152, 135266304, 270532608, 541065216, 8388608], [66, 133, 266, 532, 1064, 2064, 4225, 8514, 17028, 34056, 68112, 132128, 270400, 544896, 1089792, 2179584, 4359168, 8456192, 17305600, 34873344, 69746688, 139493376, 278986752, 541196288, 33816576, 84410368, 168820736, 337641472, 675282944, 276824064], [194, 389, 778, 1556, 3112, 2064, 12417, 24898, 49796, 99592, 199184, 132128, 794688, 1593472, 3186944, 6373888, 12747776, 8456192, 50860032, 101982208, 203964416, 407928832, 815857664, 541196288, 33816576, 84410368, 168820736, 337641472, 675282944, 276824064], [194, 389, 778, 1556, 3112, 2064, 12419, 24902, 49804, 99608, 199216, 132128, 794816, 1593728, 3187456, 6374912, 12749824, 8456192, 50868224, 101998592, 203997184, 407994368, 815988736, 541196288, 34340864, 85458944, 170917888, 341835776, 683671552, 276824064], [194, 389, 778, 1556, 3112, 2064, 12419, 24903, 49806, 99612, 199224, 132144, 794816, 1593792, 3187584, 6375168, 12750336, 8457216, 50868224, 102002688, 204005376, 408010752, 816021504, 541261824, 34340864, 85721088, 171442176, 342884352, 685768704, 281018368], [194, 453, 906, 1812, 3624, 3088, 12419, 28999, 57998, 115996, 231992, 197680, 794816, 1855936, 3711872, 7423744, 14847488, 12651520, 50868224, 118779904, 237559808, 475119616, 950239232, 809697280, 34340864, 85721088, 171442176, 342884352, 685768704, 281018368]]
noncomputable def kn65 : List Nat := [8448, 20992, 42048, 84096, 164096, 66048, 540676, 1343496, 2691089, 5382178, 10502148, 4227080, 34603266, 85983749, 172229706, 344459412, 672137512, 270533136, 67125376, 134250816, 285282944, 570565888, 67127808, 134251520, 1056768, 2117632, 4497408, 8994816, 1212416, 2162688]
noncomputable def pw65 : List Nat := [128, 320, 640, 1280, 2560, 1024, 8192, 20480, 40960, 81920, 163840, 65536, 524288, 1310720, 2621440, 5242880, 10485760, 4194304, 33554432, 83886080, 167772160, 335544320, 671088640, 268435456, 0, 0, 0, 0, 0, 0]
noncomputable def pb65 : List Nat := [0, 0, 0, 0, 0, 0, 2, 5, 10, 20, 40, 16, 128, 320, 640, 1280, 2560, 1024, 8192, 20480, 40960, 81920, 163840, 65536, 524288, 1310720, 2621440, 5242880, 10485760, 4194304]
noncomputable def nb65 : List (List Nat) := [[1, 6, 7], [0, 2, 6, 7, 8], [1, 3, 7, 8, 9], [2, 4, 8, 9, 10], [3, 5, 9, 10, 11], [4, 10, 11], [0, 1, 7, 12, 13], [0, 1, 2, 6, 8, 12, 13, 14], [1, 2, 3, 7, 9, 13, 14, 15], [2, 3, 4, 8, 10, 14, 15, 16], [3, 4, 5, 9, 11, 15, 16, 17], [4, 5, 10, 16, 17], [6, 7, 13, 18, 19], [6, 7, 8, 12, 14, 18, 19, 20], [7, 8, 9, 13, 15, 19, 20, 21], [8, 9, 10, 14, 16, 20, 21, 22], [9, 10, 11, 15, 17, 21, 22, 23], [10, 11, 16, 22, 23], [12, 13, 19, 24, 25], [12, 13, 14, 18, 20, 24, 25, 26], [13, 14, 15, 19, 21, 25, 26, 27], [14, 15, 16, 20, 22, 26, 27, 28], [15, 16, 17, 21, 23, 27, 28, 29], [16, 17, 22, 28, 29], [18, 19, 25], [18, 19, 20, 24, 26], [19, 20, 21, 25, 27], [20, 21, 22, 26, 28], [21, 22, 23, 27, 29], [22, 23, 28]]
theorem tab_65 : IsTab 6 5 rays65 (kings65.getD 8 []) kn65 pw65 pb65 := isTab_mk (by decide +kernel) (by decide +kernel) (by decide +kernel) (by decide +kernel) (by decide +kernel)
theorem ok_65 : okAll 6 30 rays65 (kings65.getD 8 []) kn65 pw65 pb65 nb65 = true := by decide +kernel
noncomputable def rays66 : List (List Nat) := [[1090785344, 2181570688, 4363141376, 8726282752, 17452565504, 34905131008, 1090785280, 2181570560, 4363141120, 8726282240, 17452564480, 34905128960, 1090781184, 2181562368, 4363124736, 8726249472, 17452498944, 34904997888, 1090519040, 2181038080, 4362076160, 8724152320, 17448304640, 34896609280, 1073741824, 2147483648, 4294967296, 8589934592, 17179869184, 34359738368, 0, 0, 0, 0, 0, 0], [62, 60, 56, 48, 32, 0, 3968, 3840, 3584, 3072, 2048, 0, 253952, 245760, 229376, 196608, 131072, 0, 16252928, 15728640, 14680064, 12582912, 8388608, 0, 1040187392, 1006632960, 939524096, 805306368, 536870912, 0, 66571993088, 64424509440, 60129542144, 51539607552, 34359738368, 0], [0, 0, 0, 0, 0, 0, 1, 2, 4, 8, 16, 32, 65, 130, 260, 520, 1040, 2080, 4161, 8322, 16644, 33288, 66576, 133152, 266305, 532610, 1065220, 2130440, 4260880, 8521760, 17043521, 34087042, 68174084, 136348168, 272696336, 545392672], [0, 1, 3, 7, 15, 31, 0, 64, 192, 448, 960, 1984, 0, 4096, 12288, 28672, 61440, 126976, 0, 262144, 786432, 1835008, 3932160, 8126464, 0, 16777216, 50331648, 117440512, 251658240, 520093696, 0, 1073741824, 3221225472, 7516192768, 16106127360, 33285996544], [34630287488, 541098240, 8454656, 132096, 2048, 0, 17315143680, 34630287360, 541097984, 8454144, 131072, 0, 8657567744, 17315135488, 34630270976, 541065216, 8388608, 0, 4328521728, 8657043456, 17314086912, 34628173824, 536870912, 0, 2147483648, 4294967296, 8589934592, 17179869184, 34359738368, 0, 0, 0, 0, 0, 0, 0], [0, 0, 0, 0, 0, 0, 2, 4, 8, 16, 32, 0, 132, 264, 528, 1056, 2048, 0, 8456, 16912, 33824, 67584, 131072, 0, 541200, 1082400, 2164736, 4325376, 8388608, 0, 34636832, 69273600, 138543104, 276824064, 536870912, 0], [0, 0, 0, 0, 0, 0, 0, 1, 2, 4, 8, 16, 0, 64, 129, 258, 516, 1032, 0, 4096, 8256, 16513, 33026, 66052, 0, 262144, 528384, 1056832, 2113665, 4227330, 0, 16777216, 33816576, 67637248, 135274560, 270549121], [0, 64, 4224, 270592, 17318400, 1108378624, 0, 4096, 270336, 17317888, 1108377600, 2216755200, 0, 262144, 17301504, 1108344832, 2216689664, 4433379328, 0, 16777216, 1107296256, 2214592512, 4429185024, 8858370048, 0, 1073741824, 2147483648, 4294967296, 8589934592, 17179869184, 0, 0, 0, 0, 0, 0]]
noncomputable def kings66 : List (List Nat) := [[0, 0, 0, 0, 0, 0, 0, 0, 0, 0, 0, 0, 0, 0, 0, 0, 0, 0, 0, 0, 0, 0, 0, 0, 0, 0, 0, 0, 0, 0, 0, 0, 0, 0, 0, 0], [64, 128, 256, 512, 1024, 2048, 4096, 8192, 16384, 32768, 65536, 131072, 262144, 524288, 1048576, 2097152, 4194304, 8388608, 16777216, 33554432, 67108864, 134217728, 268435456, 536870912, 1073741824, 2147483648, 4294967296, 8589934592, 17179869184, 34359738368, 0, 0, 0, 0, 0, 0], [66, 132, 264, 528, 1056, 2048, 4224, 8448, 16896, 33792, 67584, 131072, 270336, 540672, 1081344, 2162688, 4325376, 8388608, 17301504, 34603008, 69206016, 138412032, 276824064, 536870912, 1107296256, 2214592512, 4429185024, 8858370048, 17716740096, 34359738368, 2147483648, 4294967296, 8589934592, 17179869184, 34359738368, 0], [66, 132, 264, 528, 1056, 2048, 4225, 8450, 16900, 33800, 67600, 131104, 270400, 540800, 1081600, 2163200, 4326400, 8390656, 17305600, 34611200, 69222400, 138444800, 276889600, 537001984, 1107558400, 2215116800, 4430233600, 8860467200, 17720934400, 34368126976, 2164260864, 4328521728, 8657043456, 17314086912, 34628173824, 536870912], [66, 133, 266, 532, 1064, 2064, 4225, 8514, 17028, 34056, 68112, 132128, 270400, 544896, 1089792, 2179584, 4359168, 8456192, 17305600, 34873344, 69746688, 139493376, 278986752, 541196288, 1107558400, 2231894016, 4463788032, 8927576064, 17855152128, 34636562432, 2164260864, 5402263552, 10804527104, 21609054208, 43218108416, 17716740096], [194, 389, 778, 1556, 3112, 2064, 12417, 24898, 49796, 99592, 199184, 132128, 794688, 1593472, 3186944, 6373888, 12747776, 8456192, 50860032, 101982208, 203964416, 407928832, 815857664, 541196288, 3255042048, 6526861312, 13053722624, 26107445248, 52214890496, 34636562432, 2164260864, 5402263552, 10804527104, 21609054208, 43218108416, 17716740096], [194, 389, 778, 1556, 3112, 2064, 12419, 24902, 49804, 99608, 199216, 132128, 794816, 1593728, 3187456, 6374912, 12749824, 8456192, 50868224, 101998592, 203997184, 407994368, 815988736, 541196288, 3255566336, 6527909888, 13055819776, 26111639552, 52223279104, 34636562432, 2197815296, 5469372416, 10938744832, 21877489664, 43754979328, 17716740096], [194, 389, 778, 1556, 3112, 2064, 12419, 24903, 49806, 99612, 199224, 132144, 794816, 1593792, 3187584, 6375168, 12750336, 8457216, 50868224, 102002688, 204005376, 408010752, 816021504, 541261824, 3255566336, 6528172032, 13056344064, 26112688128, 52225376256, 34640756736, 2197815296, 5486149632, 10972299264, 21944598528, 43889197056, 17985175552], [194, 453, 906, 1812, 3624, 3088, 12419, 28999, 57998, 115996, 231992, 197680, 794816, 1855936, 3711872, 7423744, 14847488, 12651520, 50868224, 118779904, 237559808, 475119616, 950239232, 809697280, 3255566336, 7601913856, 15203827712, 30407655424, 60815310848, 51820625920, 2197815296, 5486149632, 10972299264, 21944598528, 43889197056, 17985175552]]
noncomputable def kn66 : List Nat := [8448, 20992, 42048, 84096, 164096, 66048, 540676, 1343496, 2691089, 5382178, 10502148, 4227080, 34603266, 85983749, 172229706, 344459412, 672137512, 270533136, 2214609024, 5502959936, 11022701184, 22045402368, 43016800768, 17314120704, 4296024064, 8592052224, 18258108416, 36516216832, 4296179712, 8592097280, 67633152, 135528448, 287834112, 575668224, 77594624, 138412032]
noncomputable def pw66 : List Nat := [128, 320, 640, 1280, 2560, 1024, 8192, 20480, 40960, 81920, 163840, 65536, 524288, 1310720, 2621440, 5242880, 10485760, 4194304, 33554432, 83886080, 167772160, 335544320, 671088640, 268435456, 2147483648, 5368709120, 10737418240, 21474836480, 42949672960, 17179869184, 0, 0, 0, 0, 0, 0]
noncomputable def pb66 : List Nat := [0, 0, 0, 0, 0, 0, 2, 5, 10, 20, 40, 16, 128, 320, 640, 1280, 2560, 1024, 8192, 20480, 40960, 81920, 163840, 65536, 524288, 1310720, 2621440, 5242880, 10485760, 4194304, 33554432, 83886080, 167772160, 335544320, 671088640, 268435456]
noncomputable def nb66 : List (List Nat) := [[1, 6, 7], [0, 2, 6, 7, 8], [1, 3, 7, 8, 9], [2, 4, 8, 9, 10], [3, 5, 9, 10, 11], [4, 10, 11], [0, 1, 7, 12, 13], [0, 1, 2, 6, 8, 12, 13, 14], [1, 2, 3, 7, 9, 13, 14, 15], [2, 3, 4, 8, 10, 14, 15, 16], [3, 4, 5, 9, 11, 15, 16, 17], [4, 5, 10, 16, 17], [6, 7, 13, 18, 19], [6, 7, 8, 12, 14, 18, 19, 20], [7, 8, 9, 13, 15, 19, 20, 21], [8, 9, 10, 14, 16, 20, 21, 22], [9, 10, 11, 15, 17, 21, 22, 23], [10, 11, 16, 22, 23], [12, 13, 19, 24, 25], [12, 13, 14, 18, 20, 24, 25, 26], [13, 14, 15, 19, 21, 25, 26, 27], [14, 15, 16, 20, 22, 26, 27, 28], [15, 16, 17, 21, 23, 27, 28, 29], [16, 17, 22, 28, 29], [18, 19, 25, 30, 31], [18, 19, 20, 24, 26, 30, 31, 32], [19, 20, 21, 25, 27, 31, 32, 33], [20, 21, 22, 26, 28, 32, 33, 34], [21, 22, 23, 27, 29, 33, 34, 35], [22, 23, 28, 34, 35], [24, 25, 31], [24, 25, 26, 30, 32], [25, 26, 27, 31, 33], [26, 27, 28, 32, 34], [27, 28, 29, 33, 35], [28, 29, 34]]
theorem tab_66 : IsTab 6 6 rays66 (kings66.getD 8 []) kn66 pw66 pb66 := isTab_mk (by decide +kernel) (by decide +kernel) (by decide +kernel) (by decide +kernel) (by decide +kernel)
theorem ok_66 : okAll 6 36 rays66 (kings66.getD 8 []) kn66 pw66 pb66 nb66 = true := by decide +kernel
theorem size_bd {F R : Int} (hF : 3 ≤ F ∧ F ≤ 6) (hR : 3 ≤ R ∧ R ≤ 6) : F * R ≤ 36 ∧ 9 ≤ F * R := by
  rcases shapes hF with rfl | rfl | rfl | rfl <;> omega
theorem plain_col {F R : Int} (hF : 3 ≤ F ∧ F ≤ 6) (hR : 3 ≤ R ∧ R ≤ 6) {sq men : Int} (hsq : 0 ≤ sq ∧ sq < F * R) (hm : 0 ≤ men) : Coloured (tabsOf F R) F (F * R).toNat sq men := by
  obtain ⟨h0, h1⟩ := hsq
  obtain ⟨s, rfl⟩ := Int.eq_ofNat_of_zero_le h0
  obtain ⟨m, rfl⟩ := Int.eq_ofNat_of_zero_le hm
  rcases shapes hF with rfl | rfl | rfl | rfl <;> rcases shapes hR with rfl | rfl | rfl | rfl
  · exact col_of (f := 3) (n := 9) tab_33 rfl ok_33 (by omega)
  · exact col_of (f := 3) (n := 12) tab_34 rfl ok_34 (by omega)
  · exact col_of (f := 3) (n := 15) tab_35 rfl ok_35 (by omega)
  · exact col_of (f := 3) (n := 18) tab_36 rfl ok_36 (by omega)
  · exact col_of (f := 4) (n := 12) tab_43 rfl ok_43 (by omega)
  · exact col_of (f := 4) (n := 16) tab_44 rfl ok_44 (by omega)
  · exact col_of (f := 4) (n := 20) tab_45 rfl ok_45 (by omega)
  · exact col_of (f := 4) (n := 24) tab_46 rfl ok_46 (by omega)
  · exact col_of (f := 5) (n := 15) tab_53 rfl ok_53 (by omega)
  · exact col_of (f := 5) (n := 20) tab_54 rfl ok_54 (by omega)
  · exact col_of (f := 5) (n := 25) tab_55 rfl ok_55 (by omega)
  · exact col_of (f := 5) (n := 30) tab_56 rfl ok_56 (by omega)
  · exact col_of (f := 6) (n := 18) tab_63 rfl ok_63 (by omega)
  · exact col_of (f := 6) (n := 24) tab_64 rfl ok_64 (by omega)
  · exact col_of (f := 6) (n := 30) tab_65 rfl ok_65 (by omega)
  · exact col_of (f := 6) (n := 36) tab_66 rfl ok_66 (by omega)
theorem plain_king {F R : Int} (hF : 3 ≤ F ∧ F ≤ 6) (hR : 3 ≤ R ∧ R ≤ 6) {s : Nat} (h1 : (s : Int) < F * R) : 0 < (seenV (tabsOf F R) (F * R).toNat 0 6 (s : Int) 0).length ∧ ∀ e : Nat, e < (F * R).toNat → ∀ M, M ∈ (seenV (tabsOf F R) (F * R).toNat 0 6 (s : Int) 0).map (fun q => distV F q (e : Int)) → (∀ a ∈ (seenV (tabsOf F R) (F * R).toNat 0 6 (s : Int) 0).map (fun q => distV F q (e : Int)), M ≤ a) → distV F (s : Int) (e : Int) = if (s : Int) = (e : Int) then 0 else 1 + M := by
  rcases shapes hF with rfl | rfl | rfl | rfl <;> rcases shapes hR with rfl | rfl | rfl | rfl
  · exact way_of (f := 3) (n := 9) tab_33 rfl ok_33 (by omega)
  · exact way_of (f := 3) (n := 12) tab_34 rfl ok_34 (by omega)
  · exact way_of (f := 3) (n := 15) tab_35 rfl ok_35 (by omega)
  · exact way_of (f := 3) (n := 18) tab_36 rfl ok_36 (by omega)
  · exact way_of (f := 4) (n := 12) tab_43 rfl ok_43 (by omega)
  · exact way_of (f := 4) (n := 16) tab_44 rfl ok_44 (by omega)
  · exact way_of (f := 4) (n := 20) tab_45 rfl ok_45 (by omega)
  · exact way_of (f := 4) (n := 24) tab_46 rfl ok_46 (by omega)
  · exact way_of (f := 5) (n := 15) tab_53 rfl ok_53 (by omega)
  · exact way_of (f := 5) (n := 20) tab_54 rfl ok_54 (by omega)
  · exact way_of (f := 5) (n := 25) tab_55 rfl ok_55 (by omega)
  · exact way_of (f := 5) (n := 30) tab_56 rfl ok_56 (by omega)
  · exact way_of (f := 6) (n := 18) tab_63 rfl ok_63 (by omega)
  · exact way_of (f := 6) (n := 24) tab_64 rfl ok_64 (by omega)
  · exact way_of (f := 6) (n := 30) tab_65 rfl ok_65 (by omega)
  · exact way_of (f := 6) (n := 36) tab_66 rfl ok_66 (by omega)
theorem plain_ne {F R : Int} (hF : 3 ≤ F ∧ F ≤ 6) (hR : 3 ≤ R ∧ R ≤ 6) : ∀ sq, 0 ≤ sq → sq < F * R → 0 < (seenV (tabsOf F R) (F * R).toNat 0 6 sq 0).length := by
  intro sq h0 h1
  obtain ⟨s, rfl⟩ := Int.eq_ofNat_of_zero_le h0
  exact (plain_king hF hR h1).1
theorem plain_way {F R : Int} (hF : 3 ≤ F ∧ F ≤ 6) (hR : 3 ≤ R ∧ R ≤ 6) {en : Int} (hen : 0 ≤ en ∧ en < F * R) : ∀ sq, 0 ≤ sq → sq < F * R → ∀ M, M ∈ (seenV (tabsOf F R) (F * R).toNat 0 6 sq 0).map (fun q => distV F q en) → (∀ a ∈ (seenV (tabsOf F R) (F * R).toNat 0 6 sq 0).map (fun q => distV F q en), M ≤ a) → distV F sq en = if sq = en then 0 else 1 + M := by
  intro sq h0 h1
  obtain ⟨s, rfl⟩ := Int.eq_ofNat_of_zero_le h0
  obtain ⟨e0, e1⟩ := hen
  obtain ⟨e, rfl⟩ := Int.eq_ofNat_of_zero_le e0
  exact (plain_king hF hR h1).2 e (by omega)
end

section
theorem take_le {vs : List Value} {ws : List Int} (_ : IntsAre vs (List.take 11 ws)) : (List.take 11 ws).length ≤ 11 := by rw [List.length_take]; omega
theorem pick_off {h₀ h : Heap} {L D l : Addr} {o1 o2 : Obj} (_ : News h₀ L h [(l, o1), (D, o2)]) (h : @LT.lt Nat _ D l) : ∀ p ∈ [(D, o2)], p.1 ≠ l := List.forall_mem_cons.mpr ⟨Nat.ne_of_lt h, fun _ h => nomatch h⟩
theorem law_led {h₀ h : Heap} {L l D g : Addr} {o ol : Obj} {tup : Addr × Obj} {G : List (Addr × Obj)} {F R : Int} (N : News h₀ L h (G ++ [tup, (l, o), (D, ol)])) (k : ∀ p ∈ G, ∀ q ∈ [tup, (l, o), (D, ol)], p.1 ≠ q.1) (hoff : ∀ p ∈ [(D, ol)], p.1 ≠ l) (go : GeoOk G g F R (tabsOf F R)) (hF : 3 ≤ F ∧ F ≤ 6) (hR : 3 ≤ R ∧ R ≤ 6) :
    ∃ (rest : List (Addr × Obj)) (F' R' : Int), News h₀ L h ((l, o) :: rest) ∧ (∀ p ∈ rest, p.1 ≠ l) ∧ (D, ol) ∈ rest ∧ GeoOk rest g F' R' (tabsOf F' R') ∧ (3 ≤ F' ∧ F' ≤ 6) ∧ (3 ≤ R' ∧ R' ≤ 6) := by
  refine ⟨(D, ol) :: G, F, R, news_sub N (sub_cons (List.mem_append_right _ (.tail _ (.head _))) (sub_cons (List.mem_append_right _ (.tail _ (.tail _ (.head _)))) (fun p hp => List.mem_append_left _ hp))), ?_, .head _, go.mono fun p hp => .tail _ hp, hF, hR⟩
  exact List.forall_mem_cons.mpr ⟨hoff _ (.head _), fun p hp => k p hp _ (.tail _ (.head _))⟩
theorem or_nn {a b : Int} (ha : 0 ≤ a) (hb : 0 ≤ b) : 0 ≤ Builtin.bitOr a b := by
  rw [bitOr_and, bitAnd_pp ha hb]
  have := Nat.and_le_left (n := a.toNat) (m := b.toNat)
  omega
theorem pow_nn (k : Nat) : (0 : Int) ≤ 1 * 2 ^ k := by
  rw [Int.one_mul]
  exact Int.le_of_lt (Int.pow_pos (by decide))
abbrev ledP (hA sl : Addr) (rest : List (Addr × Obj)) (k : Int) (t : Tok) : List (Addr × Obj) := (hA, listOf #[Value.ref sl, Value.int k t] 0) :: rest
set_option maxRecDepth 100000 in
set_option maxHeartbeats 8000000 in
theorem law_c : PySem.Challenge.rw_tg0014_01.Holds := hd (by
  k_go0
  rename_i q0 q1 q2 q3 q4 q5 q6 q7 q8 q9 q10 q11 q12 q13 q14 q15 q16 q17 q18 q19 q20 q21 q22 q23 q24 q25 q26 q27 q28 q29 q30 q31 q32 q33 q34 q35 q36 q37 q38 q39 q40 q41 q42 q43 q44 q45 q46 q47 q48 q49 q50 q51
  replace q47 : Below callerA (Shared.heap q2) [] (Shared.heap q2) := q47
  revert q5 q6 q12 q13 q14 q15 q16 q17 q18 q19 q20 q21 q24 q27 q29 q30 q31 q32 q33 q39 q40 q41 q42 q43 q44 q45 q46 q47 q48 q50 q51
  revert q0 q1 q2 q3 q4 q7 q8 q9 q10 q11 q22 q23 q25 q26 q28 q34 q35 q36 q37 q38 q49
  refine eps21 ((?_ : All21 _) _ _ _ _ _ _ _ _ _ _ _ _ _ _ _ _ _ _ _ _ _); intros q0 q1 q2 q3 q4 q7 q8 q9 q10 q11 q22 q23 q25 q26 q28 q34 q35 q36 q37 q38 q49 q5 q6 q12 q13 q14 q15 q16 q17 q18 q19 q20 q21 q24 q27 q29 q30 q31 q32 q33 q39 q40 q41 q42 q43 q44 q45 q46 q47 q48 q50 q51
  (repeat' (first | (with_reducible first | refine const_tk ?_ | refine and_tk ?_ | refine or_tk ?_ | refine ior_tk ?_ | refine add_tk ?_ | refine sub_tk ?_ | refine inv_tk ?_) | ((with_reducible show wpAny _ _ (storeName _ _ _) _ _ _); k_dflt (refine' storeX_L ?sF ?sN ?_ ?sa ?sb; (case sF => k_asm); (case sN => k_asm); (case sa => rfl); (case sb => rfl); k_whole; refine eps1 ((?_ : All1 _) _); intros h' F' N'; (try k_sweep))) | ((with_reducible show wpAny _ _ (newList _) _ _ _); k_dflt (refine' newList_K ?k1 ?k2 ?_; (case k1 => k_asm); (case k2 => k_asm); k_whole); refine eps2 ((?_ : All2 _) _ _); intros l' h' F' N' l1; (try k_lt l1); (try k_sweep)) | ((with_reducible show wpAny _ _ (call (Value.ref 176) _) _ _ _); refine Stop.out ?_) | ((with_reducible show wpAny _ _ (subscriptTail _ (PySem.Expr.Slice _ _ none _) (Value.ref _) (Value.ref _)) _ _ _); k_dflt (refine' kmk_slice_ints ?F ?N ?l ?p ?q ?i ?m ?c ?_ ?s ?t ?z; (case F => k_asm); (case N => k_asm); (case l => kmk_list); (case p => kmk_part); (case q => kmk_part); (case i => l_ints); (case m => kmk_nums); (case c => kmk_len); (case s => with_unfolding_all rfl); (case t => kmk_pure); (case z => kmk_size)); refine eps3 ((?_ : All3 _) _ _ _); intros D' ws' h' F' N' l1 hI' hC' hL'; (try simp only [Int.reduceNeg, Int.neg_neg, Int.reduceToNat] at hI' hC' hL'); (try k_lt l1); (try k_sweep)) | (k_end; wrow_close) | walk1 | (dsimp only; walk1) | (leave1; (try dsimp only)) | fail "no step"))
  refine Stop.mk ?_
  with_reducible rename News _ _ _ _ => N1
  with_reducible rename (IntsAre _ (List.take 11 _)) => hI1
  have hln := take_le hI1
  have hoff := pick_off N1 (by assumption)
  (repeat' (first | ((with_reducible show wpAny _ _ (call (Value.ref 176) _) _ _ _); (k_dflt (refine' pick_c ?k1 ?k2 ?k3 ?k4 ?k5 ?k6 ?hsl ?hi ?hln ?hoff ?hk0 ?hm ?d ?u ?_; (case k1 => k_asm); (case k2 => k_asm); (case k3 => k_asm); (case k4 => k_asm); (case k5 => k_asm); (case k6 => first | exact rfl | assumption); (case hsl => k_mem); (case hi => with_reducible assumption); (case hln => with_reducible assumption); (case hoff => with_reducible assumption); (case hk0 => omega); (case hm => omega); (case d => (first | exact room2 hd rfl | exact room1 hd rfl | exact room0 hd | ktr_room)); (case u => first | omega | decide | (dsimp only [ktrTop, units_deeper]; omega)); refine eps5 ((?_ : All5 _) _ _ _ _ _); intros v9 t9 t8 h9 tk9 lo9 hi9 F9 N9; (try dsimp only)))) | ((with_reducible show wpAny _ _ (call (Value.ref 113) _) _ _ _); (k_dflt (refine' geo_c ?k1 ?k2 ?k3 ?k4 ?k5 ?k6 ?hF ?hR ?hS ?hT ?d ?u ?_; (case k1 => k_asm); (case k2 => k_asm); (case k3 => k_asm); (case k4 => k_asm); (case k5 => k_asm); (case k6 => first | exact rfl | assumption); (case hF => omega); (case hR => omega); (case hS => exact (size_bd (by omega) (by omega)).1); (case hT => exact (size_bd (by omega) (by omega)).2); (case d => (first | exact room2 hd rfl | exact room1 hd rfl | exact room0 hd | ktr_room)); (case u => first | omega | decide | (dsimp only [ktrTop, units_deeper]; omega)); refine eps4 ((?_ : All4 _) _ _ _ _); intros g9 G9 h9 tk9 F9 N9 o9 go9; (try dsimp only)))) | (with_reducible first | refine const_tk ?_ | refine and_tk ?_ | refine or_tk ?_ | refine ior_tk ?_ | refine add_tk ?_ | refine sub_tk ?_ | refine inv_tk ?_) | ((with_reducible show wpAny _ _ (storeName _ _ _) _ _ _); k_dflt (refine' storeX_L ?sF ?sN ?_ ?sa ?sb; (case sF => k_asm); (case sN => k_asm); (case sa => rfl); (case sb => rfl); k_whole; refine eps1 ((?_ : All1 _) _); intros h' F' N'; (try k_sweep))) | ((with_reducible show wpAny _ _ (newTuple _) _ _ _); k_dflt (refine' kup_newTuple ?F ?N ?_ ?z; (case F => k_asm); (case N => k_asm); (case z => kmk_size)); refine eps2 ((?_ : All2 _) _ _); intros D' h' F' N' l1; (try k_lt l1); (try k_sweep)) | ((with_reducible show wpAny _ _ (unpackItems (Value.ref _) _ _) _ _ _); k_dflt (first | (refine' unpackItemsN_ ?k1 ?k2 ?k3 ?k4 ?k5 ?_; (case k1 => k_asm); (case k2 => k_asm); (case k3 => kun_tup); (case k4 => exact rfl); (case k5 => exact rfl); k_whole) | (refine' kun_items ?k1 ?k2 ?k3 ?k4 ?k5 ?_; (case k1 => k_asm); (case k2 => k_asm); (case k3 => kun_lst); (case k4 => exact rfl); (case k5 => exact rfl); k_whole)); refine eps1 ((?_ : All1 _) _); intros h' F' N'; (try k_sweep)) | (k_end; wrow_close) | walk1 | (dsimp only; walk1) | (leave1; (try dsimp only)) | fail "no step"))
  with_reducible rename GeoOk _ _ _ _ _ => go1
  with_reducible rename (∀ p, p ∈ _ → ∀ q, q ∈ _ → _ ≠ _) => off1
  with_reducible rename News _ _ _ _ => N2
  refine exs3 (law_led N2 off1 hoff go1 (by omega) (by omega)) ((?_ : All3 _) _ _ _); intros rest F R hx0; obtain ⟨N3, hoff3, hsl3, go3, hF, hR⟩ := hx0
  obtain ⟨hS, hS0⟩ := size_bd hF hR
  have hT := tabsOf_len (F := F) (R := R) (by omega)
  (try clear N1); clear N2 off1 go1 hoff
  refine GeoOk.use go3 ((?_ : GeoAll _ _ _ _ _ _) _ _ _ _ _ _ _ _ _ _ _ _ _ _ _ _ _ _ _ _ _ _); intros dg es ng uF uS rA rs nr kA kv kn nA nv nn pA np p0 v0 n0 p1 v1 n1 hx0; obtain ⟨h1, h2, h3, h4, -⟩ := hx0
  (repeat' (first | ((with_reducible show wpAny _ _ (call (Value.ref 176) _) _ _ _); (k_dflt (refine' pick_c ?k1 ?k2 ?k3 ?k4 ?k5 ?k6 ?hsl ?hi ?hln ?hoff ?hk0 ?hm ?d ?u ?_; (case k1 => k_asm); (case k2 => k_asm); (case k3 => k_asm); (case k4 => k_asm); (case k5 => k_asm); (case k6 => first | exact rfl | assumption); (case hsl => k_mem); (case hi => with_reducible assumption); (case hln => with_reducible assumption); (case hoff => with_reducible assumption); (case hk0 => omega); (case hm => omega); (case d => (first | exact room2 hd rfl | exact room1 hd rfl | exact room0 hd | ktr_room)); (case u => first | omega | decide | (dsimp only [ktrTop, units_deeper]; omega)); refine eps5 ((?_ : All5 _) _ _ _ _ _); intros v9 t9 t8 h9 tk9 lo9 hi9 F9 N9; (try dsimp only)))) | ((with_reducible show wpAny _ _ (call (Value.ref 191) _) _ _ _); k_dflt (refine' way_c ?k1 ?k2 ?k3 ?k4 ?k5 ?k6 ?g ?gt ?gf ?gr ?gs ?hen ?hne ?hW ?d ?u ?_; (case k1 => k_asm); (case k2 => k_asm); (case k3 => k_asm); (case k4 => k_asm); (case k5 => k_asm); (case k6 => first | exact rfl | assumption); (case g => (refine' GeoOk.cons ?gg; (case gg => assumption))); (case gt => assumption); (case gf => assumption); (case gr => assumption); (case gs => assumption); (case hen => (exact ⟨(by with_reducible assumption), (by first | with_reducible assumption | exact And.right (by with_reducible assumption) | exact in_hi (by with_reducible assumption) (by with_reducible assumption))⟩)); (case hne => exact plain_ne (by assumption) (by assumption)); (case hW => exact plain_way (by assumption) (by assumption) (by omega)); (case d => (first | exact room2 hd rfl | exact room1 hd rfl | exact room0 hd | ktr_room)); (case u => first | omega | decide | (dsimp only [ktrTop, units_deeper]; omega)); refine eps3 ((?_ : All3 _) _ _ _); intros t9 h9 tk9 F9 N9; (try dsimp only))) | (with_reducible first | refine const_tk ?_ | refine and_tk ?_ | refine or_tk ?_ | refine ior_tk ?_ | refine add_tk ?_ | refine sub_tk ?_ | refine inv_tk ?_) | ((with_reducible show wpAny _ _ (storeName _ _ _) _ _ _); k_dflt (refine' storeX_L ?sF ?sN ?_ ?sa ?sb; (case sF => k_asm); (case sN => k_asm); (case sa => rfl); (case sb => rfl); k_whole; refine eps1 ((?_ : All1 _) _); intros h' F' N'; (try k_sweep))) | ((with_reducible show wpAny _ _ (getAttr (Value.ref _) _ _) _ _ _); k_dflt (refine' get_own ?k1 ?k2 ?k3 ?k4 ?k5 ?k6 ?k7 ?k8 ?k9 ?_; (case k1 => k_asm); (case k2 => k_asm); (case k3 => k_inst); (case k4 => k_is); (case k5 => k_is); (case k6 => k_is); (case k7 => k_is); (case k8 => first | (with_reducible assumption) | exact (getL_put_ne (by decide) _).trans (by with_reducible assumption) | exact getL_put_self _); (case k9 => k_handed); k_whole)) | ((with_reducible show wpAny _ _ (call (Value.type _) _) _ _ _); (with_reducible rename Fr _ _ _ _ => F8); (with_reducible rename News _ _ _ _ => N8); first | (with_unfolding_all refine range1_rows F8 N8 ?_; refine eps5 ((?_ : All5 _) _ _ _ _ _); intros _ _ _ _ _ _ _ _ _) | (with_unfolding_all refine range2_rows F8 N8 ?_; refine eps5 ((?_ : All5 _) _ _ _ _ _); intros _ _ _ _ _ _ _ _ _) | (with_unfolding_all refine range3_rows F8 N8 (by decide) ?_; refine eps5 ((?_ : All5 _) _ _ _ _ _); intros _ _ _ _ _ _ _ _ _)) | ((with_reducible show wpAny _ _ (exec (PySem.Stmt.For ..) _) _ _ _); (rename Fr _ _ _ _ => lF'); (with_unfolding_all refine' For_invVF lF' ?k1 ?k2 ?_; (case k1 => exact rfl); (case k2 => exact rfl); k_whole)) | ((with_reducible show wpAny _ _ (pyIter (Value.ref _)) _ _ _); refine Stop.out ?_) | (k_end; wrow_close) | walk1 | (dsimp only; walk1) | (leave1; (try dsimp only)) | fail "no step"))
  refine Stop.mk ?_
  k_dflt (refine kst_range (σ := Int × Tok × Int × Tok) (fun c => ledP _ _ rest c.1 c.2.1) (fun c => [("men", .int c.2.2.1 c.2.2.2)]) (fun _ => True) [] (fun pre c => c.1 = 4 + (pre.length : Int) ∧ 0 ≤ c.2.2.1) (_, _, 0, _) (by rfl) (by assumption) (small_one (by omega) (by omega) (by omega) (by omega)) (rangeSize_nat _ _) (by k_asm) (by k_asm) trivial (List.forall_mem_cons.mpr ⟨rfl, List.forall_mem_nil _⟩) ⟨by rfl, Int.le_refl 0⟩ ?_ ?_)
  · refine cur4 ?_; refine eps11 ((?_ : All11 _) _ _ _ _ _ _ _ _ _ _ _); intros k tk0 mn tm pre j t u h tk own hj hlt hoffo hf hx0 F'' N''; obtain ⟨hp1, hp2⟩ := hx0
    replace N'' := N''; simp only [List.cons_append] at N''
    have hsl4 := List.mem_append_left own hsl3
    have hoff4 : ∀ p ∈ rest ++ own, p.1 ≠ _ := fun p hp => (List.mem_append.mp hp).elim (hoff3 p) fun h => hoffo p h _ (List.Mem.head _)
    have go5 := go3.mono fun p hp => List.mem_append_left own hp
    have h1' := List.mem_append_left own h1
    have h2' := List.mem_append_left own h2
    dsimp only at hp1 F'' N''
    (try dsimp only)
    (repeat' (first | ((with_reducible show wpAny _ _ (call (Value.ref 176) _) _ _ _); (k_dflt (refine' pick_c ?k1 ?k2 ?k3 ?k4 ?k5 ?k6 ?hsl ?hi ?hln ?hoff ?hk0 ?hm ?d ?u ?_; (case k1 => k_asm); (case k2 => k_asm); (case k3 => k_asm); (case k4 => k_asm); (case k5 => k_asm); (case k6 => first | exact rfl | assumption); (case hsl => k_mem); (case hi => with_reducible assumption); (case hln => with_reducible assumption); (case hoff => with_reducible assumption); (case hk0 => omega); (case hm => omega); (case d => (first | exact room2 hd rfl | exact room1 hd rfl | exact room0 hd | ktr_room)); (case u => first | omega | decide | (dsimp only [ktrTop, units_deeper]; omega)); refine eps5 ((?_ : All5 _) _ _ _ _ _); intros v9 t9 t8 h9 tk9 lo9 hi9 F9 N9; (try dsimp only)))) | (with_reducible first | refine const_tk ?_ | refine and_tk ?_ | refine or_tk ?_ | refine ior_tk ?_ | refine add_tk ?_ | refine sub_tk ?_ | refine inv_tk ?_) | ((with_reducible show wpAny _ _ (storeName _ _ _) _ _ _); k_dflt (refine' storeX_L ?sF ?sN ?_ ?sa ?sb; (case sF => k_asm); (case sN => k_asm); (case sa => rfl); (case sb => rfl); k_whole; refine eps1 ((?_ : All1 _) _); intros h' F' N'; (try k_sweep))) | ((with_reducible show wpAny _ _ (getAttr (Value.ref _) _ _) _ _ _); k_dflt (refine' get_own ?k1 ?k2 ?k3 ?k4 ?k5 ?k6 ?k7 ?k8 ?k9 ?_; (case k1 => k_asm); (case k2 => k_asm); (case k3 => k_inst); (case k4 => k_is); (case k5 => k_is); (case k6 => k_is); (case k7 => k_is); (case k8 => first | (with_reducible assumption) | exact (getL_put_ne (by decide) _).trans (by with_reducible assumption) | exact getL_put_self _); (case k9 => k_handed); k_whole)) | ((with_reducible show InvEndN ..); refine Stop.out ?_) | ((fail_if_success (with_reducible show wpAny _ _ _ _ _ _)); (fail_if_success (with_reducible show Stop _)); dsimp only) | (k_end; wrow_close) | walk1 | (dsimp only; walk1) | (leave1; (try dsimp only)) | fail "no step"))
    with_reducible rename News _ _ _ _ => N9
    refine kst_end (k + 1, _, _, _) (by k_asm) N9 (fun p hp => List.mem_append_left own hp) (fun p hp => List.Mem.tail _ (List.mem_append_right _ hp)) rfl trivial (List.forall_mem_cons.mpr ⟨rfl, List.forall_mem_nil _⟩) ?_ ⟨?_, or_nn hp2 (pow_nn _)⟩
    · intro z hz hps hs
      have hcol : z ≠ "men" := hps _ (List.Mem.head _)
      simp [kstB, hcol, hz]
    · rw [List.length_append, hp1]
      simp only [List.length_cons, List.length_nil]
      omega
  · refine cur4 ?_; refine eps7 ((?_ : All7 _) _ _ _ _ _ _ _); intros k tk0 mn tm u h tk hf hx0 F'' N''; obtain ⟨hp1, hp2⟩ := hx0
    replace hp1 := hp1; rw [rangeKs_length] at hp1
    dsimp only at hp1 F'' N''
    (try dsimp only)
    (repeat' (first | (with_reducible first | refine const_tk ?_ | refine and_tk ?_ | refine or_tk ?_ | refine ior_tk ?_ | refine add_tk ?_ | refine sub_tk ?_ | refine inv_tk ?_) | ((with_reducible show wpAny _ _ (call (Value.type _) _) _ _ _); (with_reducible rename Fr _ _ _ _ => F8); (with_reducible rename News _ _ _ _ => N8); first | (with_unfolding_all refine range1_rows F8 N8 ?_; refine eps5 ((?_ : All5 _) _ _ _ _ _); intros _ _ _ _ _ _ _ _ _) | (with_unfolding_all refine range2_rows F8 N8 ?_; refine eps5 ((?_ : All5 _) _ _ _ _ _); intros _ _ _ _ _ _ _ _ _) | (with_unfolding_all refine range3_rows F8 N8 (by decide) ?_; refine eps5 ((?_ : All5 _) _ _ _ _ _); intros _ _ _ _ _ _ _ _ _)) | ((with_reducible show wpAny _ _ (exec (PySem.Stmt.For ..) _) _ _ _); (rename Fr _ _ _ _ => lF'); (with_unfolding_all refine' For_invVF lF' ?k1 ?k2 ?_; (case k1 => exact rfl); (case k2 => exact rfl); k_whole)) | ((with_reducible show wpAny _ _ (pyIter (Value.ref _)) _ _ _); refine Stop.out ?_) | (k_end; wrow_close) | walk1 | (dsimp only; walk1) | (leave1; (try dsimp only)) | fail "no step"))
    refine Stop.mk ?_
    k_dflt (refine kst_range (σ := Int × Tok) (fun c => ledP _ _ rest c.1 c.2) (fun _ => []) (fun _ => True) [] (fun pre c => c.1 = k + (pre.length : Int)) (_, _) (by rfl) (by assumption) (small_one (by omega) (by omega) (by omega) (by omega)) (rangeSize_nat _ _) (by k_asm) (by k_asm) trivial (fun _ h => nomatch h) (Int.add_zero k).symm ?_ ?_)
    · refine cur2 ?_; refine eps9 ((?_ : All9 _) _ _ _ _ _ _ _ _ _); intros k' tk1 pre j t u h tk own hj hlt hoffo hf hp3 F3 N3
      replace N3 := N3; simp only [List.cons_append] at N3
      have hsl4 := List.mem_append_left own hsl3
      have hoff4 : ∀ p ∈ rest ++ own, p.1 ≠ _ := fun p hp => (List.mem_append.mp hp).elim (hoff3 p) fun h => hoffo p h _ (List.Mem.head _)
      have go5 := go3.mono fun p hp => List.mem_append_left own hp
      have h1' := List.mem_append_left own h1
      have h2' := List.mem_append_left own h2
      dsimp only at hp3 F3 N3
      (try dsimp only)
      (repeat' (first | ((with_reducible show wpAny _ _ (call (Value.ref 176) _) _ _ _); (k_dflt (refine' pick_c ?k1 ?k2 ?k3 ?k4 ?k5 ?k6 ?hsl ?hi ?hln ?hoff ?hk0 ?hm ?d ?u ?_; (case k1 => k_asm); (case k2 => k_asm); (case k3 => k_asm); (case k4 => k_asm); (case k5 => k_asm); (case k6 => first | exact rfl | assumption); (case hsl => k_mem); (case hi => with_reducible assumption); (case hln => with_reducible assumption); (case hoff => with_reducible assumption); (case hk0 => omega); (case hm => omega); (case d => (first | exact room2 hd rfl | exact room1 hd rfl | exact room0 hd | ktr_room)); (case u => first | omega | decide | (dsimp only [ktrTop, units_deeper]; omega)); refine eps5 ((?_ : All5 _) _ _ _ _ _); intros v9 t9 t8 h9 tk9 lo9 hi9 F9 N9; (try dsimp only)))) | ((with_reducible show wpAny _ _ (call (Value.ref 186) _) _ _ _); k_dflt (refine' col_c ?k1 ?k2 ?k3 ?k4 ?k5 ?k6 ?g ?gt ?gf ?gr ?gs ?hsq ?hC ?d ?u ?_; (case k1 => k_asm); (case k2 => k_asm); (case k3 => k_asm); (case k4 => k_asm); (case k5 => k_asm); (case k6 => first | exact rfl | assumption); (case g => (refine' GeoOk.cons ?gg; (case gg => assumption))); (case gt => assumption); (case gf => assumption); (case gr => assumption); (case gs => assumption); (case hsq => (exact ⟨(by with_reducible assumption), (by first | with_reducible assumption | exact And.right (by with_reducible assumption) | exact in_hi (by with_reducible assumption) (by with_reducible assumption))⟩)); (case hC => exact plain_col (by assumption) (by assumption) (by omega) (by omega)); (case d => (first | exact room2 hd rfl | exact room1 hd rfl | exact room0 hd | ktr_room)); (case u => first | omega | decide | (dsimp only [ktrTop, units_deeper]; omega)); refine eps3 ((?_ : All3 _) _ _ _); intros t9 h9 tk9 F9 N9; (try dsimp only))) | ((with_reducible show wpAny _ _ (getAttr (Value.ref _) _ _) _ _ _); k_dflt (refine' get_own ?k1 ?k2 ?k3 ?k4 ?k5 ?k6 ?k7 ?k8 ?k9 ?_; (case k1 => k_asm); (case k2 => k_asm); (case k3 => k_inst); (case k4 => k_is); (case k5 => k_is); (case k6 => k_is); (case k7 => k_is); (case k8 => first | (with_reducible assumption) | exact (getL_put_ne (by decide) _).trans (by with_reducible assumption) | exact getL_put_self _); (case k9 => k_handed); k_whole)) | ((with_reducible show InvEndN ..); refine Stop.out ?_) | (k_end; wrow_close) | walk1 | (dsimp only; walk1) | (leave1; (try dsimp only)) | fail "no step"))
      with_reducible rename News _ _ _ _ => N9
      refine kst_end (k' + 1, _) (by k_asm) N9 (fun p hp => List.mem_append_left own hp) (fun p hp => List.Mem.tail _ (List.mem_append_right _ hp)) rfl trivial (fun _ h => nomatch h) ?_ ?_
      · intro z hz hps hs
        exact (if_neg hz).trans (same1 hs)
      · rw [List.length_append, hp3]
        simp only [List.length_cons, List.length_nil]
        omega
    · refine cur2 ?_; refine eps5 ((?_ : All5 _) _ _ _ _ _); intros k' tk1 u h tk hf hp3 F3 N3
      dsimp only at hp3 F3 N3
      (try dsimp only)
      (repeat' (first | ((fail_if_success (with_reducible show wpAny _ _ _ _ _ _)); (fail_if_success (with_reducible show Stop _)); dsimp only) | (k_end; wrow_close) | walk1 | (dsimp only; walk1) | (leave1; (try dsimp only)) | fail "no step")))
end

end Mine
theorem PySem.Challenge.cw_tg0014_01_holds : PySem.Challenge.rw_tg0014_01.Holds := by
  exact Mine.law_c
