import PyProof.Rows.All
import Wide.All
import OpenK.AllK
import Wide.FinOn
import PySem.Challenge.RW_xm0737_01
open PySem PySem.W PyProof.Rows PyProof.V PySem.Spec
set_option Elab.async false
namespace Mine

/-- a contract over the head's own written part and view -/
theorem with_ctr {C : (Params → Frag) → Program → Prop} {K : Params → Frag} {V : Program} {l : List PySem.Str} {XP : (PySem.Str → Option Value) → Heap → Prop} {as : List Addr} {e : ∀ P, as = (K P).map (·.1)} {r : RowW} {d : DefRec}
    {kwd : List (PySem.Str × PySem.Expr)} {run : Value → List Value → Sem Value} (c : C K V) (k : C K V → WalkO V l XP (kHook K as e).says r d kwd run) : WalkO V l XP (kHook K as e).says r d kwd run := k c

/-- the law's own reckoning of the first k places: N the number of places, f the octets, c what is added to each weight -/
def dueP (N : Int) (f : Nat → Int) (c : Int) : Nat → Int
  | 0 => 0
  | k + 1 => dueP N f c k + (if (N - 1 - (k : Int)) % 8 = 0 then f k * ((k : Int) + 1 + c) else 0)

theorem dueP_gap {N : Int} {f : Nat → Int} {c : Int} {q : Nat} (hq : (N - 1 - (q : Int)) % 8 = 0) : ∀ j : Nat, j ≤ 7 → dueP N f c (q - j) = dueP N f c q
  | 0, _ => rfl
  | j + 1, h => by
    rw [← dueP_gap hq j (by omega)]
    rcases Nat.lt_or_ge j q with h1 | h1
    · obtain ⟨p, hp⟩ : ∃ p, q - j = p + 1 := ⟨q - j - 1, by omega⟩
      have h2 : q - (j + 1) = p := by omega
      rw [hp, h2]
      show dueP N f c p = dueP N f c p + _
      rw [if_neg (by omega), Int.add_zero]
    · have h2 : q - (j + 1) = q - j := by omega
      rw [h2]

theorem dueP_back {N : Int} {f : Nat → Int} {c : Int} {q : Nat} (hq : (N - 1 - (q : Int)) % 8 = 0) : dueP N f c (q + 1) = dueP N f c (q + 1 - 8) + f q * ((q : Int) + 1 + c) := by
  have e : q + 1 - 8 = q - 7 := by omega
  rw [e, dueP_gap hq 7 (by omega)]
  show dueP N f c q + _ = _
  rw [if_pos hq]

/-- another function of the same places, shifted by m: the places below m hold 0 -/
theorem dueP_low {N : Int} {f : Nat → Int} {c : Int} : ∀ k : Nat, (∀ i, i < k → f i = 0) → dueP N f c k = 0
  | 0, _ => rfl
  | k + 1, h => by
    show dueP N f c k + _ = 0
    rw [dueP_low k fun i hi => h i (by omega), h k (by omega)]
    simp

theorem dueP_shift {N : Int} {f g : Nat → Int} {m : Nat} (h0 : ∀ i, i < m → g i = 0) : ∀ k : Nat, (∀ i, i < k → g (m + i) = f i) → dueP (N + m) g 0 (m + k) = dueP N f m k
  | 0, _ => dueP_low m h0
  | k + 1, h => by
    show dueP (N + m) g 0 (m + k) + (if (N + m - 1 - ((m + k : Nat) : Int)) % 8 = 0 then g (m + k) * (((m + k : Nat) : Int) + 1 + 0) else 0) = dueP N f m k + _
    rw [dueP_shift h0 k fun i hi => h i (by omega), h k (by omega)]
    have e : (N + (m : Int) - 1 - ((m + k : Nat) : Int)) = N - 1 - (k : Int) := by omega
    have e2 : (((m + k : Nat) : Int) + 1 + 0) = (k : Int) + 1 + (m : Int) := by omega
    rw [e, e2]

theorem dueP_congr {N : Int} {f g : Nat → Int} {c : Int} : ∀ k : Nat, (∀ i, i < k → g i = f i) → dueP N g c k = dueP N f c k
  | 0, _ => rfl
  | k + 1, h => by
    show dueP N g c k + _ = dueP N f c k + _
    rw [dueP_congr k fun i hi => h i (by omega), h k (by omega)]

theorem dueP_eight {N : Int} {f : Nat → Int} {c : Int} : ∀ k : Nat, dueP (N + 8) f c k = dueP N f c k
  | 0 => rfl
  | k + 1 => by
    show dueP (N + 8) f c k + _ = dueP N f c k + _
    rw [dueP_eight k]
    have e : ((N + 8 - 1 - (k : Int)) % 8 = 0) = ((N - 1 - (k : Int)) % 8 = 0) := by
      refine propext ⟨fun h => ?_, fun h => ?_⟩ <;> omega
    simp only [e]

theorem dueP_zero {N : Int} {f : Nat → Int} {c : Int} {n : Nat} : ∀ k : Nat, (∀ i, i < k → f (n + i) = 0) → dueP N f c (n + k) = dueP N f c n
  | 0, _ => rfl
  | k + 1, h => by
    show dueP N f c (n + k) + (if (N - 1 - ((n + k : Nat) : Int)) % 8 = 0 then f (n + k) * (((n + k : Nat) : Int) + 1 + c) else 0) = _
    rw [dueP_zero k fun i hi => h i (by omega), h k (by omega)]
    simp

/-- one place turned -/
theorem dueP_turn {N : Int} {f g : Nat → Int} {c : Int} {at' : Nat} : ∀ k : Nat, (∀ i, i < k → i ≠ at' → g i = f i) →
    dueP N g c k - dueP N f c k = if at' < k ∧ (N - 1 - (at' : Int)) % 8 = 0 then (g at' - f at') * ((at' : Int) + 1 + c) else 0
  | 0, _ => by simp [dueP]
  | k + 1, h => by
    have ih := dueP_turn (N := N) (c := c) k fun i hi hn => h i (by omega) hn
    show (dueP N g c k + _) - (dueP N f c k + _) = _
    by_cases hk : k = at'
    · subst hk
      rw [if_neg (by omega)] at ih
      by_cases ht : (N - 1 - (k : Int)) % 8 = 0
      · rw [if_pos ht, if_pos ht, if_pos ⟨by omega, ht⟩, Int.sub_mul]
        omega
      · rw [if_neg ht, if_neg ht, if_neg (fun x => ht x.2)]
        omega
    · rw [h k (by omega) hk]
      have e : (at' < k + 1 ∧ (N - 1 - (at' : Int)) % 8 = 0) = (at' < k ∧ (N - 1 - (at' : Int)) % 8 = 0) := by
        refine propext ⟨fun x => ⟨by omega, x.2⟩, fun x => ⟨by omega, x.2⟩⟩
      simp only [e]
      omega

/-- what record_sum tells of a list of octets -/
def told (t : Int) (ks : List Int) : Int := (t + dueP ks.length (fun i => ks.getD i 0) 0 ks.length) % 4294967296
def dueL (t : Int) (ks : List Int) (c : Int) : Int := (t + dueP ks.length (fun i => ks.getD i 0) c ks.length) % 4294967296

theorem told_due (t : Int) (ks : List Int) : told t ks = dueL t ks 0 := rfl

theorem getD_app_l {xs ys : List Int} {i : Nat} (h : i < xs.length) : (xs ++ ys).getD i 0 = xs.getD i 0 := by
  rw [List.getD_eq_getElem?_getD, List.getD_eq_getElem?_getD, List.getElem?_append_left h]
theorem getD_app_r {xs ys : List Int} {i : Nat} : (xs ++ ys).getD (xs.length + i) 0 = ys.getD i 0 := by
  rw [List.getD_eq_getElem?_getD, List.getD_eq_getElem?_getD, List.getElem?_append_right (by omega)]
  congr 2
  omega
theorem getD_zeros {m i : Nat} : (List.replicate m (0 : Int)).getD i 0 = 0 := by
  rw [List.getD_eq_getElem?_getD, List.getElem?_replicate]
  split <;> rfl

theorem told_ahead (t : Int) (ks : List Int) (m : Nat) : told t (List.replicate m 0 ++ ks) = dueL t ks m := by
  unfold told dueL
  have h := dueP_shift (N := (ks.length : Int)) (f := fun i => ks.getD i 0) (g := fun i => (List.replicate m (0 : Int) ++ ks).getD i 0) (m := m)
    (fun i hi => by rw [getD_app_l (by simpa using hi)]; exact getD_zeros) ks.length (fun i _ => by
      have e := getD_app_r (xs := List.replicate m (0 : Int)) (ys := ks) (i := i)
      rw [List.length_replicate] at e
      exact e)
  have e : (List.replicate m (0 : Int) ++ ks).length = m + ks.length := by simp
  rw [e, ← h]
  have e2 : ((m + ks.length : Nat) : Int) = (ks.length : Int) + (m : Int) := by omega
  rw [e2]

theorem told_behind (t : Int) (ks : List Int) : told t (ks ++ List.replicate 8 0) = told t ks := by
  unfold told
  have e : (ks ++ List.replicate 8 (0 : Int)).length = ks.length + 8 := by simp
  rw [e]
  have e2 : ((ks.length + 8 : Nat) : Int) = (ks.length : Int) + 8 := by omega
  rw [e2, dueP_zero 8 fun i _ => by
    rw [getD_app_r]; exact getD_zeros, dueP_eight, dueP_congr ks.length fun i hi => getD_app_l hi]

theorem turned_get {ks : List Int} {at' : Nat} {o : Int} (h : at' < ks.length) (i : Nat) : (ks.take at' ++ [o] ++ ks.drop (at' + 1)).getD i 0 = if i = at' then o else ks.getD i 0 := by
  have hl : (ks.take at').length = at' := by rw [List.length_take]; omega
  rw [List.append_assoc]
  rcases Nat.lt_or_ge i at' with h1 | h1
  · rw [getD_app_l (by omega), if_neg (by omega), List.getD_eq_getElem?_getD, List.getD_eq_getElem?_getD, List.getElem?_take_of_lt h1]
  · obtain ⟨j, rfl⟩ : ∃ j, i = at' + j := ⟨i - at', by omega⟩
    have e := getD_app_r (xs := ks.take at') (ys := [o] ++ ks.drop (at' + 1)) (i := j)
    rw [hl] at e
    rw [e]
    cases j with
    | zero => simp
    | succ j =>
      rw [if_neg (by omega)]
      show (ks.drop (at' + 1)).getD j 0 = _
      rw [List.getD_eq_getElem?_getD, List.getD_eq_getElem?_getD, List.getElem?_drop]
      congr 2
      omega
theorem turned_len {ks : List Int} {at' : Nat} {o : Int} (h : at' < ks.length) : (ks.take at' ++ [o] ++ ks.drop (at' + 1)).length = ks.length := by
  simp only [List.length_append, List.length_take, List.length_drop, List.length_cons, List.length_nil]
  omega

theorem told_turned (t : Int) {ks : List Int} {at' : Nat} {o : Int} (h : at' < ks.length) :
    (told t (ks.take at' ++ [o] ++ ks.drop (at' + 1)) - told t ks - (if ((ks.length : Int) - 1 - (at' : Int)) % 8 = 0 then (o - ks.getD at' 0) * ((at' : Int) + 1) else 0)) % 4294967296 = 0 := by
  unfold told
  rw [turned_len h]
  have e := dueP_turn (N := (ks.length : Int)) (f := fun i => ks.getD i 0) (g := fun i => (ks.take at' ++ [o] ++ ks.drop (at' + 1)).getD i 0) (c := 0) (at' := at') ks.length
    (fun i _ hn => by
      show (ks.take at' ++ [o] ++ ks.drop (at' + 1)).getD i 0 = ks.getD i 0
      rw [turned_get h, if_neg hn])
  have e1 : (ks.take at' ++ [o] ++ ks.drop (at' + 1)).getD at' 0 = o := by rw [turned_get h, if_pos rfl]
  simp only [e1, h, true_and, Int.add_zero] at e
  rw [← e]
  omega

section
variable {w : World} {mean : ExcName → Option Value} {mg mb : PySem.Str → Option Value} {dp un : Nat} {gd : Option (List Code)} {cn : PySem.Str} {cs : Scope} {a : Addr} {ccd : Value} {cl : List (PySem.Str × Addr)} {outer : List Env} {A₀ : Around} {base h₀ : Heap} {L : Addr} {m : PySem.Str → Option Value} {news : List (Addr × Obj)} {s : Shared} {Q E : Value → Shared → Prop}

def ToldC (K : Params → Frag) (V : Program) : Prop := ∀ {w : World} {mean : ExcName → Option Value} {mg mb : PySem.Str → Option Value} {dp un : Nat} {gd : Option (List Code)} {cn : PySem.Str} {cs : Scope} {a : Addr} {ccd : Value} {cl : List (PySem.Str × Addr)} {outer : List Env} {A₀ : Around} {base h₀ : Heap} {L : Addr} {m : PySem.Str → Option Value} {news : List (Addr × Obj)} {s : Shared} {Q E : Value → Shared → Prop} {x y : Int} {tx ty : Tok} (B : Below A₀ base outer h₀) (F : Fr h₀ L s.heap m) (X : (K w.params).In h₀) (N : News h₀ L s.heap news) (T : Top V (looseW V [PySem.Str.ofString "WORD"]) mean mg mb h₀) (hk : cs.kind = .function)
    (hdp : dp + 1 < recursionLimit) (hu : un + 8 < cLine)
    (hret : ∀ h' tk', Fr h₀ L h' m → News h₀ L h' news → Q (.bool (decide ((y - 1 - x) % 8 = 0))) { s with heap := h', toks := tk' }),
    wpAny (model PySem.Challenge.rw_xm0737_01.row.prog w) (ktrTop dp un gd cn cs L a ccd cl outer) (PySem.call (.ref 61) [.int x tx, .int y ty]) Q E s
theorem told_use {K : Params → Frag} {V : Program} (hC : ToldC K V) : ∀ {w : World} {mean : ExcName → Option Value} {mg mb : PySem.Str → Option Value} {dp un : Nat} {gd : Option (List Code)} {cn : PySem.Str} {cs : Scope} {a : Addr} {ccd : Value} {cl : List (PySem.Str × Addr)} {outer : List Env} {A₀ : Around} {base h₀ : Heap} {L : Addr} {m : PySem.Str → Option Value} {news : List (Addr × Obj)} {s : Shared} {Q E : Value → Shared → Prop} {x y : Int} {tx ty : Tok} (B : Below A₀ base outer h₀) (F : Fr h₀ L s.heap m) (X : (K w.params).In h₀) (N : News h₀ L s.heap news) (T : Top V (looseW V [PySem.Str.ofString "WORD"]) mean mg mb h₀) (hk : cs.kind = .function)
    (hdp : dp + 1 < recursionLimit) (hu : un + 8 < cLine)
    (hret : ∀ h' tk', Fr h₀ L h' m → News h₀ L h' news → Q (.bool (decide ((y - 1 - x) % 8 = 0))) { s with heap := h', toks := tk' }),
    wpAny (model PySem.Challenge.rw_xm0737_01.row.prog w) (ktrTop dp un gd cn cs L a ccd cl outer) (PySem.call (.ref 61) [.int x tx, .int y ty]) Q E s := by
  unfold ToldC at hC
  exact hC

def Src (vs : List Value) : Prop := ∃ x y : Int, IntsAre vs [x, y] ∧ 0 ≤ x ∧ 0 ≤ y ∧ y < 2147483647

theorem sq_ok {a : Int} : IntMulOk (a.fmod 2147483647) (a.fmod 2147483647) := by
  have h1 : 0 ≤ a.fmod 2147483647 := fmod_lo _ (by decide)
  have h2 : a.fmod 2147483647 < 2147483647 := fmod_hi _ (by decide)
  exact IntMulOk.of_right (intBits_le_64 (by omega) (by omega))
theorem sq_ok2 {x y a : Int} : IntMulOk (([x, y].set (Int.toNat 1) (a.fmod 2147483647)).getD (Int.toNat 1) 0) (([x, y].set (Int.toNat 1) (a.fmod 2147483647)).getD (Int.toNat 1) 0) := by
  have e : ([x, y].set (Int.toNat 1) (a.fmod 2147483647)).getD (Int.toNat 1) 0 = a.fmod 2147483647 := rfl
  rw [e]
  exact sq_ok

def TakeC (K : Params → Frag) (V : Program) : Prop := ∀ {w : World} {mean : ExcName → Option Value} {mg mb : PySem.Str → Option Value} {dp un : Nat} {gd : Option (List Code)} {cn : PySem.Str} {cs : Scope} {a : Addr} {ccd : Value} {cl : List (PySem.Str × Addr)} {outer : List Env} {A₀ : Around} {base h₀ : Heap} {L : Addr} {m : PySem.Str → Option Value} {news : List (Addr × Obj)} {s : Shared} {Q E : Value → Shared → Prop} {src : Addr} {top : Int} {tt : Tok} {n : Nat} {vs : List Value} (B : Below A₀ base outer h₀) (F : Fr h₀ L s.heap m) (X : (K w.params).In h₀)
    (N : News h₀ L s.heap ((src, W.listOf vs.toArray n) :: news)) (T : Top V (looseW V [PySem.Str.ofString "WORD"]) mean mg mb h₀) (hk : cs.kind = .function)
    (hdp : dp + 1 < recursionLimit) (hu : un + 8 < cLine) (hoff : OwnOff news [src]) (hS : Src vs) (ht : 1 ≤ top ∧ top ≤ 65536)
    (hret : ∀ vs' d td h' tk', Src vs' → 0 ≤ d → d < top → Fr h₀ L h' m → News h₀ L h' ((src, W.listOf vs'.toArray n) :: news) → Q (.int d td) { s with heap := h', toks := tk' }),
    wpAny (model PySem.Challenge.rw_xm0737_01.row.prog w) (ktrTop dp un gd cn cs L a ccd cl outer) (PySem.call (.ref 35) [.ref src, .int top tt]) Q E s
theorem take_use {K : Params → Frag} {V : Program} (hC : TakeC K V) : ∀ {w : World} {mean : ExcName → Option Value} {mg mb : PySem.Str → Option Value} {dp un : Nat} {gd : Option (List Code)} {cn : PySem.Str} {cs : Scope} {a : Addr} {ccd : Value} {cl : List (PySem.Str × Addr)} {outer : List Env} {A₀ : Around} {base h₀ : Heap} {L : Addr} {m : PySem.Str → Option Value} {news : List (Addr × Obj)} {s : Shared} {Q E : Value → Shared → Prop} {src : Addr} {top : Int} {tt : Tok} {n : Nat} {vs : List Value} (B : Below A₀ base outer h₀) (F : Fr h₀ L s.heap m) (X : (K w.params).In h₀)
    (N : News h₀ L s.heap ((src, W.listOf vs.toArray n) :: news)) (T : Top V (looseW V [PySem.Str.ofString "WORD"]) mean mg mb h₀) (hk : cs.kind = .function)
    (hdp : dp + 1 < recursionLimit) (hu : un + 8 < cLine) (hoff : OwnOff news [src]) (hS : Src vs) (ht : 1 ≤ top ∧ top ≤ 65536)
    (hret : ∀ vs' d td h' tk', Src vs' → 0 ≤ d → d < top → Fr h₀ L h' m → News h₀ L h' ((src, W.listOf vs'.toArray n) :: news) → Q (.int d td) { s with heap := h', toks := tk' }),
    wpAny (model PySem.Challenge.rw_xm0737_01.row.prog w) (ktrTop dp un gd cn cs L a ccd cl outer) (PySem.call (.ref 35) [.ref src, .int top tt]) Q E s := by
  unfold TakeC at hC
  exact hC

end

section
variable {prog : Program} {w : World} {A : Around} {E : Value → Shared → Prop} {s : Shared} {env : Env} {h₀ : Heap} {x : PySem.Str} {body : List Stmt} {Q : Flow → Shared → Prop}

/-- a loop over a range of any step, one int name kept: after i turns it holds G i -/
theorem step_iter {r : Addr} {a₀ b₀ c : Int} {t₀ u₀ v₀ : Tok} {n : Nat} {m₀ : PySem.Str → Option Value} {news : List (Addr × Obj)} {y : PySem.Str} {c₀ : Int} {ty : Tok} (G : Nat → Int) (hG : c₀ = G 0)
    (hh : A.handled = none) (hr : IsRange s.heap r a₀ b₀ c t₀ u₀ v₀) (hsmall : Builtin.Range.small a₀ b₀ c = true) (hn : Builtin.Range.rangeSize a₀ b₀ c = (n : Int)) (F : Fr h₀ env.locals s.heap m₀) (N : News h₀ env.locals s.heap news) (hy : m₀ y = some (.int c₀ ty))
    (turn : ∀ (i : Nat) t ta h tk own, i < n → OwnOff own (news.map (·.1)) → Fr h₀ env.locals h (fun z => if z = x then some (.int (a₀ + i * c) t) else if z = y then some (.int (G i) ta) else m₀ z) → News h₀ env.locals h (news ++ own) →
      wpAny (model prog w) A (execs body env) (InvPostN h₀ env.locals (fun m' nx => nx = news ∧ (∃ t', m' y = some (.int (G (i + 1)) t')) ∧ ∀ z, z ≠ x → z ≠ y → m' z = m₀ z) own (news.map (·.1)) { s with heap := h, toks := tk } Q) E { s with heap := h, toks := tk })
    (done : ∀ (u : PySem.Str → Option Value) t h tk, Fr h₀ env.locals h (fun z => if z = x then u z else if z = y then some (.int (G n) t) else m₀ z) → News h₀ env.locals h news → Q .next { s with heap := h, toks := tk }) :
    wpAny (model prog w) A (pyIter (.ref r)) (fun it s₂ => LoopAtV prog w A h₀ env x body Q E it s₂) E s := by
  subst hG
  refine wpAny_pyIter_range hr hsmall ?_
  have W : Walks prog w A s.heap.objs.size [s.heap.objs.size] [s.heap.objs.size] n (fun i v => i < n ∧ ∃ t, v = .int (a₀ + i * c) t)
      (fun i h => IsRangeIter h s.heap.objs.size (a₀ + (i : Nat) * c) ((n : Int) - (i : Nat)) c) := (Walks.range hh _ a₀ c n).bound
  refine loop_invN (fun i m nx => nx = news ∧ (∃ t, m y = some (.int (G i) t)) ∧ ∀ z, z ≠ x → z ≠ y → m z = m₀ z) W ?_ ?_ ?_ ?_ (by show IsRangeIter _ _ _ _ _; rw [hn]; simpa using Heap.get?_push_size _ rfl) (F.push _) (fun p hp => ⟨Heap.get?_push_of_some _ (N p hp).1, (N p hp).2⟩) ⟨rfl, ⟨ty, hy⟩, fun _ _ _ => rfl⟩ ?_ ?_
  · intro hm
    exact absurd F.ns.lt ((List.mem_singleton.mp hm) ▸ Nat.lt_irrefl _)
  · intro b hb
    rw [List.mem_singleton.mp hb]
    exact next_is_new F
  · intro p hp hI
    exact absurd (Heap.lt_size (N p hp).1) ((List.mem_singleton.mp hI) ▸ Nat.lt_irrefl _)
  · intro p hp hI
    exact absurd (Heap.lt_size (N p hp).1) ((List.mem_singleton.mp hI) ▸ Nat.lt_irrefl _)
  · rintro i v m₁ nx h tk own hi ⟨_, t, rfl⟩ _ ho ⟨rfl, ⟨ta, ha⟩, hm⟩ F₁ N₁
    rw [map_one ha hm] at F₁
    exact turn i t ta h tk own hi ho F₁ N₁
  · rintro m₁ nx h tk ⟨rfl, ⟨t, ha⟩, hm⟩ F₁ N₁
    refine done m₁ t h tk ?_ N₁
    rw [done_one ha hm]; exact F₁
end

theorem size_down8 {n : Nat} : Builtin.Range.rangeSize ((n : Int) - 1) (-1) (-8) = (((n + 7) / 8 : Nat) : Int) := by
  unfold Builtin.Range.rangeSize
  simp only [show ¬ ((-8 : Int) > 0) by decide, if_false, show (-(-8) : Int) = 8 from rfl]
  split <;> omega
theorem small_down8 {n : Nat} (h : n ≤ 1000) : Builtin.Range.small ((n : Int) - 1) (-1) (-8) = true := by
  unfold Builtin.Range.small
  rw [size_down8]
  simp only [Builtin.Range.rangeFitsLong, Bool.and_eq_true, Bool.or_eq_true, decide_eq_true_eq, beq_iff_eq, show ¬ ((-8 : Int) > 0) by decide, if_false]
  omega

section
variable {w : World} {mean : ExcName → Option Value} {mg mb : PySem.Str → Option Value} {dp un : Nat} {gd : Option (List Code)} {cn : PySem.Str} {cs : Scope} {a : Addr} {ccd : Value} {cl : List (PySem.Str × Addr)} {outer : List Env} {A₀ : Around} {base h₀ : Heap} {L : Addr} {m : PySem.Str → Option Value} {news : List (Addr × Obj)} {s : Shared} {Q E : Value → Shared → Prop}

theorem oct_ok {a b : Int} (h0 : 0 ≤ a) (h1 : a < 256) : IntMulOk a b := IntMulOk.of_left (intBits_le_64 (by omega) (by omega))

def SumC (K : Params → Frag) (V : Program) : Prop := ∀ {w : World} {mean : ExcName → Option Value} {mg mb : PySem.Str → Option Value} {dp un : Nat} {gd : Option (List Code)} {cn : PySem.Str} {cs : Scope} {a : Addr} {ccd : Value} {cl : List (PySem.Str × Addr)} {outer : List Env} {A₀ : Around} {base h₀ : Heap} {L : Addr} {m : PySem.Str → Option Value} {news : List (Addr × Obj)} {s : Shared} {Q E : Value → Shared → Prop} {nonce page : Int} {tn tp tb : Tok} {b : Array UInt8} {ks : List Int} (B : Below A₀ base outer h₀) (F : Fr h₀ L s.heap m) (X : (K w.params).In h₀) (N : News h₀ L s.heap news) (T : Top V (looseW V [PySem.Str.ofString "WORD"]) mean mg mb h₀) (hk : cs.kind = .function)
    (hdp : dp + 1 < recursionLimit) (hu : un + 8 < cLine) (hb : KBw.bInts b = ks) (hl : ks.length ≤ 1000)
    (hret : ∀ t h' tk', Fr h₀ L h' m → News h₀ L h' news → Q (.int (told (nonce + page) ks) t) { s with heap := h', toks := tk' }),
    wpAny (model PySem.Challenge.rw_xm0737_01.row.prog w) (ktrTop dp un gd cn cs L a ccd cl outer) (PySem.call (.ref 21) [.int nonce tn, .int page tp, .bytes b tb]) Q E s
theorem sum_use {K : Params → Frag} {V : Program} (hC : SumC K V) : ∀ {w : World} {mean : ExcName → Option Value} {mg mb : PySem.Str → Option Value} {dp un : Nat} {gd : Option (List Code)} {cn : PySem.Str} {cs : Scope} {a : Addr} {ccd : Value} {cl : List (PySem.Str × Addr)} {outer : List Env} {A₀ : Around} {base h₀ : Heap} {L : Addr} {m : PySem.Str → Option Value} {news : List (Addr × Obj)} {s : Shared} {Q E : Value → Shared → Prop} {nonce page : Int} {tn tp tb : Tok} {b : Array UInt8} {ks : List Int} (B : Below A₀ base outer h₀) (F : Fr h₀ L s.heap m) (X : (K w.params).In h₀) (N : News h₀ L s.heap news) (T : Top V (looseW V [PySem.Str.ofString "WORD"]) mean mg mb h₀) (hk : cs.kind = .function)
    (hdp : dp + 1 < recursionLimit) (hu : un + 8 < cLine) (hb : KBw.bInts b = ks) (hl : ks.length ≤ 1000)
    (hret : ∀ t h' tk', Fr h₀ L h' m → News h₀ L h' news → Q (.int (told (nonce + page) ks) t) { s with heap := h', toks := tk' }),
    wpAny (model PySem.Challenge.rw_xm0737_01.row.prog w) (ktrTop dp un gd cn cs L a ccd cl outer) (PySem.call (.ref 21) [.int nonce tn, .int page tp, .bytes b tb]) Q E s := by
  unfold SumC at hC
  exact hC

end

def Stop (P : Prop) : Prop := P
theorem Stop.out {P : Prop} (h : Stop P) : P := h


section
variable {w : World} {mean : ExcName → Option Value} {mg mb : PySem.Str → Option Value} {dp un : Nat} {gd : Option (List Code)} {cn : PySem.Str} {cs : Scope} {a : Addr} {ccd : Value} {cl : List (PySem.Str × Addr)} {outer : List Env} {A₀ : Around} {base h₀ : Heap} {L : Addr} {m : PySem.Str → Option Value} {news : List (Addr × Obj)} {s : Shared} {Q E : Value → Shared → Prop}

theorem size_up {n : Nat} : Builtin.Range.rangeSize 0 (n : Int) 1 = (n : Int) := by
  rw [rangeSize_nat]; omega
theorem small_up {n : Nat} (h : n ≤ 1000) : Builtin.Range.small 0 (n : Int) 1 = true := small_one (by omega) (by omega) (by omega) (by omega)

def DueC (K : Params → Frag) (V : Program) : Prop := ∀ {w : World} {mean : ExcName → Option Value} {mg mb : PySem.Str → Option Value} {dp un : Nat} {gd : Option (List Code)} {cn : PySem.Str} {cs : Scope} {a : Addr} {ccd : Value} {cl : List (PySem.Str × Addr)} {outer : List Env} {A₀ : Around} {base h₀ : Heap} {L : Addr} {m : PySem.Str → Option Value} {news : List (Addr × Obj)} {s : Shared} {Q E : Value → Shared → Prop} {start more : Int} {ts tb tm : Tok} {b : Array UInt8} {ks : List Int} (B : Below A₀ base outer h₀) (F : Fr h₀ L s.heap m) (X : (K w.params).In h₀) (N : News h₀ L s.heap news) (T : Top V (looseW V [PySem.Str.ofString "WORD"]) mean mg mb h₀) (hk : cs.kind = .function)
    (hdp : dp + 2 < recursionLimit) (hu : un + 16 < cLine) (hb : KBw.bInts b = ks) (hl : ks.length ≤ 1000)
    (hret : ∀ t h' tk', Fr h₀ L h' m → News h₀ L h' news → Q (.int (dueL start ks more) t) { s with heap := h', toks := tk' }),
    wpAny (model PySem.Challenge.rw_xm0737_01.row.prog w) (ktrTop dp un gd cn cs L a ccd cl outer) (PySem.call (.ref 68) [.int start ts, .bytes b tb, .int more tm]) Q E s
theorem due_use {K : Params → Frag} {V : Program} (hC : DueC K V) : ∀ {w : World} {mean : ExcName → Option Value} {mg mb : PySem.Str → Option Value} {dp un : Nat} {gd : Option (List Code)} {cn : PySem.Str} {cs : Scope} {a : Addr} {ccd : Value} {cl : List (PySem.Str × Addr)} {outer : List Env} {A₀ : Around} {base h₀ : Heap} {L : Addr} {m : PySem.Str → Option Value} {news : List (Addr × Obj)} {s : Shared} {Q E : Value → Shared → Prop} {start more : Int} {ts tb tm : Tok} {b : Array UInt8} {ks : List Int} (B : Below A₀ base outer h₀) (F : Fr h₀ L s.heap m) (X : (K w.params).In h₀) (N : News h₀ L s.heap news) (T : Top V (looseW V [PySem.Str.ofString "WORD"]) mean mg mb h₀) (hk : cs.kind = .function)
    (hdp : dp + 2 < recursionLimit) (hu : un + 16 < cLine) (hb : KBw.bInts b = ks) (hl : ks.length ≤ 1000)
    (hret : ∀ t h' tk', Fr h₀ L h' m → News h₀ L h' news → Q (.int (dueL start ks more) t) { s with heap := h', toks := tk' }),
    wpAny (model PySem.Challenge.rw_xm0737_01.row.prog w) (ktrTop dp un gd cn cs L a ccd cl outer) (PySem.call (.ref 68) [.int start ts, .bytes b tb, .int more tm]) Q E s := by
  unfold DueC at hC
  exact hC

end


theorem swap2 {h₀ h : Heap} {L : Addr} {p q : Addr × Obj} {news : List (Addr × Obj)} (N : News h₀ L h (p :: q :: news)) : News h₀ L h (q :: p :: news) := by
  intro r hr
  refine N r ?_
  rcases List.mem_cons.mp hr with rfl | hr
  · exact .tail _ (.head _)
  · rcases List.mem_cons.mp hr with rfl | hr
    · exact .head _
    · exact .tail _ (.tail _ hr)

theorem getD_mem {ns : List Int} {d : Int} (h0 : 0 ≤ d) (h1 : d < (ns.length : Int)) : ns.getD d.toNat 0 ∈ ns := by
  have h : d.toNat < ns.length := by omega
  rw [List.getD_eq_getElem?_getD, List.getElem?_eq_getElem h]
  exact List.getElem_mem h

section
variable {w : World} {mean : ExcName → Option Value} {mg mb : PySem.Str → Option Value} {dp un : Nat} {gd : Option (List Code)} {cn : PySem.Str} {cs : Scope} {a : Addr} {ccd : Value} {cl : List (PySem.Str × Addr)} {outer : List Env} {A₀ : Around} {base h₀ : Heap} {L : Addr} {m : PySem.Str → Option Value} {news : List (Addr × Obj)} {s : Shared} {Q E : Value → Shared → Prop}

def OneC (K : Params → Frag) (V : Program) : Prop := ∀ {w : World} {mean : ExcName → Option Value} {mg mb : PySem.Str → Option Value} {dp un : Nat} {gd : Option (List Code)} {cn : PySem.Str} {cs : Scope} {a : Addr} {ccd : Value} {cl : List (PySem.Str × Addr)} {outer : List Env} {A₀ : Around} {base h₀ : Heap} {L : Addr} {m : PySem.Str → Option Value} {news : List (Addr × Obj)} {s : Shared} {Q E : Value → Shared → Prop} {src thg : Addr} {vs vt : List Value} {ns : List Int} {n k : Nat} (B : Below A₀ base outer h₀) (F : Fr h₀ L s.heap m) (X : (K w.params).In h₀)
    (N : News h₀ L s.heap ((thg, W.listOf vt.toArray k) :: (src, W.listOf vs.toArray n) :: news)) (T : Top V (looseW V [PySem.Str.ofString "WORD"]) mean mg mb h₀) (hk : cs.kind = .function)
    (hdp : dp + 2 < recursionLimit) (hu : un + 16 < cLine) (hoff : OwnOff ((thg, W.listOf vt.toArray k) :: news) [src]) (hS : Src vs) (hi : IntsAre vt ns) (hl : 1 ≤ ns.length ∧ ns.length ≤ 1000)
    (hret : ∀ vs' j t h' tk', Src vs' → j ∈ ns → Fr h₀ L h' m → News h₀ L h' ((src, W.listOf vs'.toArray n) :: news) → Q (.int j t) { s with heap := h', toks := tk' }),
    wpAny (model PySem.Challenge.rw_xm0737_01.row.prog w) (ktrTop dp un gd cn cs L a ccd cl outer) (PySem.call (.ref 42) [.ref src, .ref thg]) Q E s
theorem one_use {K : Params → Frag} {V : Program} (hC : OneC K V) : ∀ {w : World} {mean : ExcName → Option Value} {mg mb : PySem.Str → Option Value} {dp un : Nat} {gd : Option (List Code)} {cn : PySem.Str} {cs : Scope} {a : Addr} {ccd : Value} {cl : List (PySem.Str × Addr)} {outer : List Env} {A₀ : Around} {base h₀ : Heap} {L : Addr} {m : PySem.Str → Option Value} {news : List (Addr × Obj)} {s : Shared} {Q E : Value → Shared → Prop} {src thg : Addr} {vs vt : List Value} {ns : List Int} {n k : Nat} (B : Below A₀ base outer h₀) (F : Fr h₀ L s.heap m) (X : (K w.params).In h₀)
    (N : News h₀ L s.heap ((thg, W.listOf vt.toArray k) :: (src, W.listOf vs.toArray n) :: news)) (T : Top V (looseW V [PySem.Str.ofString "WORD"]) mean mg mb h₀) (hk : cs.kind = .function)
    (hdp : dp + 2 < recursionLimit) (hu : un + 16 < cLine) (hoff : OwnOff ((thg, W.listOf vt.toArray k) :: news) [src]) (hS : Src vs) (hi : IntsAre vt ns) (hl : 1 ≤ ns.length ∧ ns.length ≤ 1000)
    (hret : ∀ vs' j t h' tk', Src vs' → j ∈ ns → Fr h₀ L h' m → News h₀ L h' ((src, W.listOf vs'.toArray n) :: news) → Q (.int j t) { s with heap := h', toks := tk' }),
    wpAny (model PySem.Challenge.rw_xm0737_01.row.prog w) (ktrTop dp un gd cn cs L a ccd cl outer) (PySem.call (.ref 42) [.ref src, .ref thg]) Q E s := by
  unfold OneC at hC
  exact hC

theorem word_bd {j d : Int} (hj : j ∈ [0, 1, (2 : Int) ^ Int.toNat 31, (2 : Int) ^ Int.toNat 32 - 1, d * 65521 + 5]) (h0 : 0 ≤ d) (h1 : d < 65536) : 0 ≤ j ∧ j < 4294967296 := by
  have e1 : (2 : Int) ^ Int.toNat 31 = 2147483648 := by decide
  have e2 : (2 : Int) ^ Int.toNat 32 = 4294967296 := by decide
  rw [e1, e2] at hj
  simp only [List.mem_cons, List.not_mem_nil, or_false] at hj
  omega

theorem off_cons {thg src : Addr} {o : Obj} (h : @LT.lt Nat _ src thg) (hoff : OwnOff news [src]) : OwnOff ((thg, o) :: news) [src] := by
  intro p hp b hb
  rw [List.mem_singleton.mp hb]
  rcases List.mem_cons.mp hp with rfl | hp
  · exact Nat.ne_of_gt h
  · exact hoff p hp src (List.mem_singleton.mpr rfl)


def WordC (K : Params → Frag) (V : Program) : Prop := ∀ {w : World} {mean : ExcName → Option Value} {mg mb : PySem.Str → Option Value} {dp un : Nat} {gd : Option (List Code)} {cn : PySem.Str} {cs : Scope} {a : Addr} {ccd : Value} {cl : List (PySem.Str × Addr)} {outer : List Env} {A₀ : Around} {base h₀ : Heap} {L : Addr} {m : PySem.Str → Option Value} {news : List (Addr × Obj)} {s : Shared} {Q E : Value → Shared → Prop} {src : Addr} {vs : List Value} {n : Nat} (B : Below A₀ base outer h₀) (F : Fr h₀ L s.heap m) (X : (K w.params).In h₀)
    (N : News h₀ L s.heap ((src, W.listOf vs.toArray n) :: news)) (T : Top V (looseW V [PySem.Str.ofString "WORD"]) mean mg mb h₀) (hk : cs.kind = .function)
    (hdp : dp + 3 < recursionLimit) (hu : un + 24 < cLine) (hoff : OwnOff news [src]) (hS : Src vs)
    (hret : ∀ vs' j t h' tk', Src vs' → 0 ≤ j → j < 4294967296 → Fr h₀ L h' m → News h₀ L h' ((src, W.listOf vs'.toArray n) :: news) → Q (.int j t) { s with heap := h', toks := tk' }),
    wpAny (model PySem.Challenge.rw_xm0737_01.row.prog w) (ktrTop dp un gd cn cs L a ccd cl outer) (PySem.call (.ref 49) [.ref src]) Q E s
theorem word_use {K : Params → Frag} {V : Program} (hC : WordC K V) : ∀ {w : World} {mean : ExcName → Option Value} {mg mb : PySem.Str → Option Value} {dp un : Nat} {gd : Option (List Code)} {cn : PySem.Str} {cs : Scope} {a : Addr} {ccd : Value} {cl : List (PySem.Str × Addr)} {outer : List Env} {A₀ : Around} {base h₀ : Heap} {L : Addr} {m : PySem.Str → Option Value} {news : List (Addr × Obj)} {s : Shared} {Q E : Value → Shared → Prop} {src : Addr} {vs : List Value} {n : Nat} (B : Below A₀ base outer h₀) (F : Fr h₀ L s.heap m) (X : (K w.params).In h₀)
    (N : News h₀ L s.heap ((src, W.listOf vs.toArray n) :: news)) (T : Top V (looseW V [PySem.Str.ofString "WORD"]) mean mg mb h₀) (hk : cs.kind = .function)
    (hdp : dp + 3 < recursionLimit) (hu : un + 24 < cLine) (hoff : OwnOff news [src]) (hS : Src vs)
    (hret : ∀ vs' j t h' tk', Src vs' → 0 ≤ j → j < 4294967296 → Fr h₀ L h' m → News h₀ L h' ((src, W.listOf vs'.toArray n) :: news) → Q (.int j t) { s with heap := h', toks := tk' }),
    wpAny (model PySem.Challenge.rw_xm0737_01.row.prog w) (ktrTop dp un gd cn cs L a ccd cl outer) (PySem.call (.ref 49) [.ref src]) Q E s := by
  unfold WordC at hC
  exact hC

end


theorem rot4 {h₀ h : Heap} {L : Addr} {p q r t : Addr × Obj} {news : List (Addr × Obj)} (N : News h₀ L h (p :: q :: r :: t :: news)) : News h₀ L h (t :: p :: q :: r :: news) := by
  refine cb_drop N fun x hx => ?_
  rcases List.mem_cons.mp hx with rfl | hx
  · exact .tail _ (.tail _ (.tail _ (.head _)))
  · rcases List.mem_cons.mp hx with rfl | hx
    · exact .head _
    · rcases List.mem_cons.mp hx with rfl | hx
      · exact .tail _ (.head _)
      · rcases List.mem_cons.mp hx with rfl | hx
        · exact .tail _ (.tail _ (.head _))
        · exact .tail _ (.tail _ (.tail _ (.tail _ hx)))

section
variable {w : World} {mean : ExcName → Option Value} {mg mb : PySem.Str → Option Value} {dp un : Nat} {gd : Option (List Code)} {cn : PySem.Str} {cs : Scope} {a : Addr} {ccd : Value} {cl : List (PySem.Str × Addr)} {outer : List Env} {A₀ : Around} {base h₀ : Heap} {L : Addr} {m : PySem.Str → Option Value} {news : List (Addr × Obj)} {s : Shared} {Q E : Value → Shared → Prop}

theorem comp_inv {σ : Type} {prog : Program} {A : Around} {env : Env} {elt : Expr} {x : PySem.Str} {scope : Scope} {cl : List (PySem.Str × Addr)} {S : List (Addr × Obj) → Prop} {P : Nat → Value → Prop} {Fin : List Value → List (Addr × Obj) → Prop} {n : Nat} (Led : σ → List (Addr × Obj)) (G : σ → Prop) (R : Int → Prop) (c₀ : σ) (hG : G c₀)
    (turn : ∀ c v I oI C oC D m₂ ys h tk (E' : Value → Shared → Prop), G c → LCg.NsObj oC m₂ → m₂ x = some v → Fr h₀ L h m → News h₀ L h ((I, oI) :: (C, oC) :: (D, LCg.lst ys) :: Led c) → LCg.Off3 I C D (Led c) → ((@Ne Nat I C) ∧ (@Ne Nat I D) ∧ (@Ne Nat C D)) →
      wpAny (model prog w) A (eval elt (compEnvC scope cl C env)) (LCg.CompEnd h₀ L m { s with heap := h, toks := tk } I oI C oC D (LCg.lst ys) S (fun y news' => (∃ c', news' = Led c' ∧ G c') ∧ ∃ k t, y = Value.int k t ∧ R k)) E' { s with heap := h, toks := tk })
    (fin : ∀ c ys ks, G c → IntsAre ys ks → ks.length = n → (∀ k ∈ ks, R k) → Fin ys (Led c)) : LCg.CompRest prog w A h₀ L m env elt x scope cl s S P Fin n 0 [] (Led c₀) := by
  have key : ∀ (j i : Nat) (ys : List Value) (ks : List Int) (c : σ), i + j = n → G c → IntsAre ys ks → ks.length = i → (∀ k ∈ ks, R k) → LCg.CompRest prog w A h₀ L m env elt x scope cl s S P Fin j i ys (Led c) := by
    intro j
    induction j with
    | zero =>
      intro i ys ks c hi hc hy hl hr
      exact LCg.CompRest.zero (fin c ys ks hc hy (by omega) hr)
    | succ j ih =>
      intro i ys ks c hi hc hy hl hr
      refine LCg.CompRest.succ ?_
      intro v I oI C oC D m₂ h tk E' hv hC hx F N off ne
      refine wpAny_mono (turn c v I oI C oC D m₂ ys h tk E' hc hC hx F N off ne) (fun y s₂ hq => ?_) fun _ _ e => e
      obtain ⟨h', tk', nw, e, F', N', off', hS, ⟨c', hn, hc'⟩, k, t', hy', hk⟩ := hq
      subst hn hy'
      refine ⟨h', tk', Led c', e, F', N', off', hS, ?_⟩
      refine ih (i + 1) _ (ks ++ [k]) c' (by omega) hc' (IntsAre.append hy (.cons k t' .nil)) (by simp [hl]) ?_
      intro q hq
      rcases List.mem_append.mp hq with hq | hq
      · exact hr q hq
      · rw [List.mem_singleton.mp hq]; exact hk
  exact key n 0 [] [] c₀ (by omega) hG .nil rfl (fun _ h => nomatch h)

theorem many_bd {j d : Int} (hj : j ∈ [0, 1, 7, 8, 9, 16, d]) (h0 : 0 ≤ d) (h1 : d < 61) : 0 ≤ j ∧ j ≤ 60 := by
  simp only [List.mem_cons, List.not_mem_nil, or_false] at hj
  omega
theorem octet_bd {j d : Int} (hj : j ∈ [0, 1, 128, 255, d]) (h0 : 0 ≤ d) (h1 : d < 256) : 0 ≤ j ∧ j < 256 := by
  simp only [List.mem_cons, List.not_mem_nil, or_false] at hj
  omega

def OctetsC (K : Params → Frag) (V : Program) : Prop := ∀ {w : World} {mean : ExcName → Option Value} {mg mb : PySem.Str → Option Value} {dp un : Nat} {gd : Option (List Code)} {cn : PySem.Str} {cs : Scope} {a : Addr} {ccd : Value} {cl : List (PySem.Str × Addr)} {outer : List Env} {A₀ : Around} {base h₀ : Heap} {L : Addr} {m : PySem.Str → Option Value} {news : List (Addr × Obj)} {s : Shared} {Q E : Value → Shared → Prop} {src : Addr} {vs : List Value} {n : Nat} (B : Below A₀ base outer h₀) (F : Fr h₀ L s.heap m) (X : (K w.params).In h₀)
    (N : News h₀ L s.heap ((src, W.listOf vs.toArray n) :: news)) (T : Top V (looseW V [PySem.Str.ofString "WORD"]) mean mg mb h₀) (hk : cs.kind = .function)
    (hdp : dp + 4 < recursionLimit) (hu : un + 40 < cLine) (hoff : OwnOff news [src]) (hS : Src vs)
    (hret : ∀ vs' b ks t h' tk', Src vs' → KBw.bInts b = ks → ks.length ≤ 60 → Fr h₀ L h' m → News h₀ L h' ((src, W.listOf vs'.toArray n) :: news) → Q (.bytes b t) { s with heap := h', toks := tk' }),
    wpAny (model PySem.Challenge.rw_xm0737_01.row.prog w) (ktrTop dp un gd cn cs L a ccd cl outer) (PySem.call (.ref 54) [.ref src]) Q E s
theorem octets_use {K : Params → Frag} {V : Program} (hC : OctetsC K V) : ∀ {w : World} {mean : ExcName → Option Value} {mg mb : PySem.Str → Option Value} {dp un : Nat} {gd : Option (List Code)} {cn : PySem.Str} {cs : Scope} {a : Addr} {ccd : Value} {cl : List (PySem.Str × Addr)} {outer : List Env} {A₀ : Around} {base h₀ : Heap} {L : Addr} {m : PySem.Str → Option Value} {news : List (Addr × Obj)} {s : Shared} {Q E : Value → Shared → Prop} {src : Addr} {vs : List Value} {n : Nat} (B : Below A₀ base outer h₀) (F : Fr h₀ L s.heap m) (X : (K w.params).In h₀)
    (N : News h₀ L s.heap ((src, W.listOf vs.toArray n) :: news)) (T : Top V (looseW V [PySem.Str.ofString "WORD"]) mean mg mb h₀) (hk : cs.kind = .function)
    (hdp : dp + 4 < recursionLimit) (hu : un + 40 < cLine) (hoff : OwnOff news [src]) (hS : Src vs)
    (hret : ∀ vs' b ks t h' tk', Src vs' → KBw.bInts b = ks → ks.length ≤ 60 → Fr h₀ L h' m → News h₀ L h' ((src, W.listOf vs'.toArray n) :: news) → Q (.bytes b t) { s with heap := h', toks := tk' }),
    wpAny (model PySem.Challenge.rw_xm0737_01.row.prog w) (ktrTop dp un gd cn cs L a ccd cl outer) (PySem.call (.ref 54) [.ref src]) Q E s := by
  unfold OctetsC at hC
  exact hC

end

section
variable {prog : Program} {w : World} {A : Around} {E : Value → Shared → Prop} {s : Shared}
theorem bi_no_bytes : typeLookup (.type "int") "__bytes__" = pure none := by rw [typeLookup_type, builtinLookup_eq_fast]; kernel_rfl

theorem bi_new {n : Int} {t : Tok} {Q : Value → Shared → Prop} (h0 : 0 ≤ n) (h1 : n ≤ 1000)
    (hQ : ∀ t' k, Q (.bytes (Array.replicate n.toNat 0) t') { s with toks := k }) :
    codeAny (model prog w) A (.call (.builtin "bytes.__new__") ⟨[.type "bytes", .int n t], []⟩) (wants Q E) s := by
  refine codeAny_of_tree ?_
  show wpAny _ A.in1 (do checkBuiltinCall "bytes.__new__" ⟨[.type "bytes", .int n t], []⟩; again (.builtin "bytes.__new__" ⟨[.type "bytes", .int n t], []⟩)) _ _ s
  refine wpAny_bind (wpAny_of_eq (F.bm_newCall _) (wpAny_pure ⟨plainId_quiet F.bm_plain _, codeAny_builtin F.bm_entry ?_⟩))
  rw [Around.under_plainId F.bm_plain _]
  have hT : s.TypeIs (.int n t) "int" := typeIs_int s n t
  unfold Builtin.«bytes.__new__»
  refine wpAny_bind (wpAny_of_eq (a := true) rfl ?_)
  refine bm_if_false rfl ?_
  refine wpAny_bind (wpAny_of_eq F.bm_sub ?_)
  refine bm_if_false rfl ?_
  refine wpAny_bind (wpAny_of_eq (F.bm_bind _) ?_)
  refine wpAny_bind (wpAny_of_eq (a := ()) rfl ?_)
  refine wpAny_bind (wpAny_of_eq (a := ()) rfl ?_)
  refine bm_if_false rfl ?_
  refine wpAny_bind (wpAny_specialOf hT bi_no_bytes ?_)
  refine wpAny_bind (wpAny_bind ?_)
  refine wpAny_of_eq (a := none) rfl ?_
  refine wpAny_pure ?_
  refine bm_if_false rfl ?_
  refine wpAny_bind (wpAny_specialOf hT F.slot_int_index.lookup ?_)
  refine bm_if_false rfl ?_
  refine wpAny_bind (wpAny_attempt (wpAny_of_eq (a := n) rfl ?_))
  have hf : Builtin.Bytes.fitsIndex n = true := by
    simp only [Builtin.Bytes.fitsIndex, Bool.and_eq_true, decide_eq_true_eq]
    omega
  refine bm_if_false (by rw [hf]; rfl) ?_
  refine wpAny_ite ?_
  rw [if_neg (by omega)]
  refine wpAny_ite ?_
  rw [if_neg (by omega)]
  refine bm_if_false (KBy.tooLong_not (by omega)) ?_
  refine wpAny_bind (wpAny_rule ?_)
  refine wpAny_bind (wpAny_mkBytes ?_ (by rw [sizeLine_eq]; simp; omega))
  refine bm_if_true (by decide) ?_
  first
    | exact wpAny_pure (hQ _ _)
    | exact wpAny_bind (wpAny_pure (wpAny_pure (hQ _ _)))

theorem call_bytes_int {n : Int} {t : Tok} {Q : Value → Shared → Prop} (h0 : 0 ≤ n) (h1 : n ≤ 1000)
    (hQ : ∀ b t' k, KBw.bInts b = List.replicate n.toNat 0 → Q (.bytes b t') { s with toks := k }) : wpAny (model prog w) A (call (.type "bytes") [.int n t]) Q E s := by
  refine callType_codes (Q₁ := fun obj s₁ => s₁.TypeIs obj "bytes" ∧ Q obj s₁) F.bm_called (F.bm_typeCall _) F.entry_object_init
    (bi_new h0 h1 fun t' k => ⟨PySem.W.typeIs_bytes _ _ _, hQ _ t' k ?_⟩) fun obj s₁ h₁ => ?_
  · show ((Array.replicate n.toNat (0 : UInt8)).toList.map fun c => ((c.toNat : Nat) : Int)) = _
    rw [Array.toList_replicate, List.map_replicate]
    rfl
  · exact ⟨h₁.1, F.args_object_init_2 obj _, object_init_meets F.bm_called.init.lookup F.bm_called.made (by decide) prog w A.in1 _ s₁ ⟨h₁.1, rfl, h₁.2⟩⟩
end

theorem cut_eq {ks xs : List Int} {d o : Int} (h0 : 0 ≤ d) (h1 : d < (ks.length : Int)) (hx : xs = [o]) :
    ks.take (clipAt ks.length d) ++ xs ++ (ks.drop (clipAt ks.length (d + 1))).take (ks.length - clipAt ks.length (d + 1)) = ks.take d.toNat ++ [o] ++ ks.drop (d.toNat + 1) := by
  rw [hx, clipAt_in h0 (by omega), clipAt_in (by omega) (by omega)]
  have e : (d + 1).toNat = d.toNat + 1 := by omega
  rw [e, List.take_of_length_le (l := ks.drop (d.toNat + 1)) (by rw [List.length_drop]; omega)]
theorem cut_last {ks xs : List Int} {o : Int} (h1 : 1 ≤ ks.length) (hx : xs = [o]) :
    ks.take (clipAt ks.length (-1)) ++ xs = ks.take (ks.length - 1) ++ [o] ++ ks.drop (ks.length - 1 + 1) := by
  have e : clipAt ks.length (-1) = ks.length - 1 := clipAt_neg ks.length 1 (by omega)
  rw [hx, e, List.drop_eq_nil_of_le (by omega), List.append_nil]
theorem byte_one {o : Int} (h : ((o.toNat.toUInt8.toNat : Nat) : Int) = o) : List.map (fun c : UInt8 => ((c.toNat : Nat) : Int)) [o.toNat.toUInt8] = [o] := by
  show [((o.toNat.toUInt8.toNat : Nat) : Int)] = [o]
  rw [h]

theorem law_told (t : Int) {ks xs : List Int} {d o : Int} (h0 : 0 ≤ d) (h1 : d < (ks.length : Int)) (hx : xs = [o]) (ht : ((ks.length : Int) - 1 - d) % 8 = 0) :
    (told t (ks.take (clipAt ks.length d) ++ xs ++ (ks.drop (clipAt ks.length (d + 1))).take (ks.length - clipAt ks.length (d + 1))) - told t ks - (o - ks.getD d.toNat 0) * (d + 1)).fmod (2 ^ Int.toNat 32) = 0 := by
  have e3 : (2 : Int) ^ Int.toNat 32 = 4294967296 := by decide
  rw [e3, Int.fmod_eq_emod_of_nonneg _ (by decide), cut_eq h0 h1 hx]
  have h := told_turned t (ks := ks) (at' := d.toNat) (o := o) (by omega)
  have e : ((d.toNat : Nat) : Int) = d := by omega
  rw [e, if_pos ht] at h
  exact h
theorem law_not (t : Int) {ks xs : List Int} {d o : Int} (h0 : 0 ≤ d) (h1 : d < (ks.length : Int)) (hx : xs = [o]) (ht : ¬ ((ks.length : Int) - 1 - d) % 8 = 0) :
    (told t (ks.take (clipAt ks.length d) ++ xs ++ (ks.drop (clipAt ks.length (d + 1))).take (ks.length - clipAt ks.length (d + 1))) - told t ks - 0).fmod (2 ^ Int.toNat 32) = 0 := by
  have e3 : (2 : Int) ^ Int.toNat 32 = 4294967296 := by decide
  rw [e3, Int.fmod_eq_emod_of_nonneg _ (by decide), cut_eq h0 h1 hx]
  have h := told_turned t (ks := ks) (at' := d.toNat) (o := o) (by omega)
  have e : ((d.toNat : Nat) : Int) = d := by omega
  rw [e, if_neg ht] at h
  exact h
theorem law_last (t : Int) {ks xs : List Int} {o : Int} (h1 : 1 ≤ ks.length) (hx : xs = [o]) :
    (told t (ks.take (clipAt ks.length (-1)) ++ xs) - told t ks - (o - ks.getD (-1 + (ks.length : Int)).toNat 0) * (ks.length : Int)).fmod (2 ^ Int.toNat 32) = 0 := by
  have e3 : (2 : Int) ^ Int.toNat 32 = 4294967296 := by decide
  rw [e3, Int.fmod_eq_emod_of_nonneg _ (by decide), cut_last h1 hx]
  have h := told_turned t (ks := ks) (at' := ks.length - 1) (o := o) (by omega)
  have e : (((ks.length - 1 : Nat) : Int) + 1) = (ks.length : Int) := by omega
  have e2 : ((ks.length : Int) - 1 - ((ks.length - 1 : Nat) : Int)) % 8 = 0 := by omega
  have e4 : (-1 + (ks.length : Int)).toNat = ks.length - 1 := by omega
  rw [if_pos e2, e] at h
  rw [e4]
  exact h


section
variable {w : World} {mean : ExcName → Option Value} {mg mb : PySem.Str → Option Value} {dp un : Nat} {gd : Option (List Code)} {cn : PySem.Str} {cs : Scope} {a : Addr} {ccd : Value} {cl : List (PySem.Str × Addr)} {outer : List Env} {A₀ : Around} {base h₀ : Heap} {L : Addr} {m : PySem.Str → Option Value} {news : List (Addr × Obj)} {s : Shared} {Q E : Value → Shared → Prop}

def ChangedC (K : Params → Frag) (V : Program) : Prop := ∀ {w : World} {mean : ExcName → Option Value} {mg mb : PySem.Str → Option Value} {dp un : Nat} {gd : Option (List Code)} {cn : PySem.Str} {cs : Scope} {a : Addr} {ccd : Value} {cl : List (PySem.Str × Addr)} {outer : List Env} {A₀ : Around} {base h₀ : Heap} {L : Addr} {m : PySem.Str → Option Value} {news : List (Addr × Obj)} {s : Shared} {Q E : Value → Shared → Prop} {src : Addr} {vs : List Value} {n : Nat} {nonce page : Int} {tn tp tb : Tok} {b : Array UInt8} {ks : List Int} (B : Below A₀ base outer h₀) (F : Fr h₀ L s.heap m) (X : (K w.params).In h₀)
    (N : News h₀ L s.heap ((src, W.listOf vs.toArray n) :: news)) (T : Top V (looseW V [PySem.Str.ofString "WORD"]) mean mg mb h₀) (hk : cs.kind = .function)
    (hdp : dp + 2 < recursionLimit) (hu : un + 16 < cLine) (hoff : OwnOff news [src]) (hS : Src vs) (hb : KBw.bInts b = ks) (hl1 : 1 ≤ ks.length) (hl2 : ks.length ≤ 60)
    (hret : ∀ vs' h' tk', Src vs' → Fr h₀ L h' m → News h₀ L h' ((src, W.listOf vs'.toArray n) :: news) → Q (.bool true) { s with heap := h', toks := tk' }),
    wpAny (model PySem.Challenge.rw_xm0737_01.row.prog w) (ktrTop dp un gd cn cs L a ccd cl outer) (PySem.call (.ref 75) [.ref src, .int nonce tn, .int page tp, .bytes b tb]) Q E s
theorem changed_use {K : Params → Frag} {V : Program} (hC : ChangedC K V) : ∀ {w : World} {mean : ExcName → Option Value} {mg mb : PySem.Str → Option Value} {dp un : Nat} {gd : Option (List Code)} {cn : PySem.Str} {cs : Scope} {a : Addr} {ccd : Value} {cl : List (PySem.Str × Addr)} {outer : List Env} {A₀ : Around} {base h₀ : Heap} {L : Addr} {m : PySem.Str → Option Value} {news : List (Addr × Obj)} {s : Shared} {Q E : Value → Shared → Prop} {src : Addr} {vs : List Value} {n : Nat} {nonce page : Int} {tn tp tb : Tok} {b : Array UInt8} {ks : List Int} (B : Below A₀ base outer h₀) (F : Fr h₀ L s.heap m) (X : (K w.params).In h₀)
    (N : News h₀ L s.heap ((src, W.listOf vs.toArray n) :: news)) (T : Top V (looseW V [PySem.Str.ofString "WORD"]) mean mg mb h₀) (hk : cs.kind = .function)
    (hdp : dp + 2 < recursionLimit) (hu : un + 16 < cLine) (hoff : OwnOff news [src]) (hS : Src vs) (hb : KBw.bInts b = ks) (hl1 : 1 ≤ ks.length) (hl2 : ks.length ≤ 60)
    (hret : ∀ vs' h' tk', Src vs' → Fr h₀ L h' m → News h₀ L h' ((src, W.listOf vs'.toArray n) :: news) → Q (.bool true) { s with heap := h', toks := tk' }),
    wpAny (model PySem.Challenge.rw_xm0737_01.row.prog w) (ktrTop dp un gd cn cs L a ccd cl outer) (PySem.call (.ref 75) [.ref src, .int nonce tn, .int page tp, .bytes b tb]) Q E s := by
  unfold ChangedC at hC
  exact hC

end


section
variable {w : World} {mean : ExcName → Option Value} {mg mb : PySem.Str → Option Value} {dp un : Nat} {gd : Option (List Code)} {cn : PySem.Str} {cs : Scope} {a : Addr} {ccd : Value} {cl : List (PySem.Str × Addr)} {outer : List Env} {A₀ : Around} {base h₀ : Heap} {L : Addr} {m : PySem.Str → Option Value} {news : List (Addr × Obj)} {s : Shared} {Q E : Value → Shared → Prop}

theorem told_comm (x y : Int) (ks : List Int) : told (x + y) ks = told (y + x) ks := by rw [Int.add_comm]
theorem told_zero (x : Int) (ks : List Int) : told (0 + x) ks = told x ks := by rw [Int.zero_add]
theorem told_ahead2 {t d : Int} {ks : List Int} (h : 0 ≤ d) : told t (List.replicate d.toNat 0 ++ ks) = dueL t ks d := by
  rw [told_ahead]
  have e : ((d.toNat : Nat) : Int) = d := by omega
  rw [e]
theorem len_pos {b : Array UInt8} {ks : List Int} (hb : KBw.bInts b = ks) (h : (b.toList == (#[] : Array UInt8).toList) = false) : 1 ≤ ks.length := by
  subst hb
  rw [KBw.ints_length]
  rcases Nat.eq_zero_or_pos b.size with h1 | h1
  · have e : b = #[] := Array.eq_empty_of_size_eq_zero h1
    subst e
    cases h
  · exact h1

def RightC (K : Params → Frag) (V : Program) : Prop := ∀ {w : World} {mean : ExcName → Option Value} {mg mb : PySem.Str → Option Value} {dp un : Nat} {gd : Option (List Code)} {cn : PySem.Str} {cs : Scope} {a : Addr} {ccd : Value} {cl : List (PySem.Str × Addr)} {outer : List Env} {A₀ : Around} {base h₀ : Heap} {L : Addr} {m : PySem.Str → Option Value} {news : List (Addr × Obj)} {s : Shared} {Q E : Value → Shared → Prop} {src : Addr} {vs : List Value} {n : Nat} (B : Below A₀ base outer h₀) (F : Fr h₀ L s.heap m) (X : (K w.params).In h₀)
    (N : News h₀ L s.heap ((src, W.listOf vs.toArray n) :: news)) (T : Top V (looseW V [PySem.Str.ofString "WORD"]) mean mg mb h₀) (hk : cs.kind = .function)
    (hdp : dp + 5 < recursionLimit) (hu : un + 48 < cLine) (hoff : OwnOff news [src]) (hS : Src vs)
    (hret : ∀ h' tk', Fr h₀ L h' m → News h₀ L h' news → Q (.bool true) { s with heap := h', toks := tk' }),
    wpAny (model PySem.Challenge.rw_xm0737_01.row.prog w) (ktrTop dp un gd cn cs L a ccd cl outer) (PySem.call (.ref 82) [.ref src]) Q E s
theorem right_use {K : Params → Frag} {V : Program} (hC : RightC K V) : ∀ {w : World} {mean : ExcName → Option Value} {mg mb : PySem.Str → Option Value} {dp un : Nat} {gd : Option (List Code)} {cn : PySem.Str} {cs : Scope} {a : Addr} {ccd : Value} {cl : List (PySem.Str × Addr)} {outer : List Env} {A₀ : Around} {base h₀ : Heap} {L : Addr} {m : PySem.Str → Option Value} {news : List (Addr × Obj)} {s : Shared} {Q E : Value → Shared → Prop} {src : Addr} {vs : List Value} {n : Nat} (B : Below A₀ base outer h₀) (F : Fr h₀ L s.heap m) (X : (K w.params).In h₀)
    (N : News h₀ L s.heap ((src, W.listOf vs.toArray n) :: news)) (T : Top V (looseW V [PySem.Str.ofString "WORD"]) mean mg mb h₀) (hk : cs.kind = .function)
    (hdp : dp + 5 < recursionLimit) (hu : un + 48 < cLine) (hoff : OwnOff news [src]) (hS : Src vs)
    (hret : ∀ h' tk', Fr h₀ L h' m → News h₀ L h' news → Q (.bool true) { s with heap := h', toks := tk' }),
    wpAny (model PySem.Challenge.rw_xm0737_01.row.prog w) (ktrTop dp un gd cn cs L a ccd cl outer) (PySem.call (.ref 82) [.ref src]) Q E s := by
  unfold RightC at hC
  exact hC

end

section
variable {w : World} {mean : ExcName → Option Value} {mg mb : PySem.Str → Option Value} {dp un : Nat} {gd : Option (List Code)} {cn : PySem.Str} {cs : Scope} {a : Addr} {ccd : Value} {cl : List (PySem.Str × Addr)} {outer : List Env} {A₀ : Around} {base h₀ : Heap} {L : Addr} {m : PySem.Str → Option Value} {news : List (Addr × Obj)} {s : Shared} {Q E : Value → Shared → Prop}

theorem src_of {tx ty : Tok} (c y : Int) {P : Prop} [Decidable P] : Src [.int ((if -1 - c > c then -1 - c else c) * (if P then 1 else 0)) tx, .int (y.fmod 2147483647) ty] := by
  refine ⟨_, _, .cons _ _ (.cons _ _ .nil), ?_, fmod_lo _ (by decide), fmod_hi _ (by decide)⟩
  refine Int.mul_nonneg ?_ ?_
  · split <;> omega
  · split <;> decide
theorem off_lt {D : Addr} (h : ∀ p ∈ news, p.1 < D) : OwnOff news [D] := by
  intro p hp b hb
  rw [List.mem_singleton.mp hb]
  exact Nat.ne_of_lt (h p hp)

def PoolC (K : Params → Frag) (V : Program) : Prop := ∀ {w : World} {mean : ExcName → Option Value} {mg mb : PySem.Str → Option Value} {dp un : Nat} {gd : Option (List Code)} {cn : PySem.Str} {cs : Scope} {a : Addr} {ccd : Value} {cl : List (PySem.Str × Addr)} {outer : List Env} {A₀ : Around} {base h₀ : Heap} {L : Addr} {m : PySem.Str → Option Value} {news : List (Addr × Obj)} {s : Shared} {Q E : Value → Shared → Prop} {l : Addr} {vs : List Value} {ns : List Int} {k : Int} {tk : Tok} (B : Below A₀ base outer h₀) (F : Fr h₀ L s.heap m) (X : (K w.params).In h₀)
    (N : News h₀ L s.heap news) (T : Top V (looseW V [PySem.Str.ofString "WORD"]) mean mg mb h₀) (hk : cs.kind = .function)
    (hdp : dp + 1 < recursionLimit) (hu : un + 8 < cLine) (hl : base.IsList l vs.toArray) (hi : IntsAre vs ns) (hn : ns.length ≤ 63) (hk0 : 0 ≤ k) (hk1 : k ≤ 2)
    (hret : ∀ D vs' h' tk', Src vs' → OwnOff news [D] → Fr h₀ L h' m → News h₀ L h' ((D, W.listOf vs'.toArray 0) :: news) → Q (.ref D) { s with heap := h', toks := tk' }),
    wpAny (model PySem.Challenge.rw_xm0737_01.row.prog w) (ktrTop dp un gd cn cs L a ccd cl outer) (PySem.call (.ref 28) [.ref l, .int k tk]) Q E s
theorem pool_use {K : Params → Frag} {V : Program} (hC : PoolC K V) : ∀ {w : World} {mean : ExcName → Option Value} {mg mb : PySem.Str → Option Value} {dp un : Nat} {gd : Option (List Code)} {cn : PySem.Str} {cs : Scope} {a : Addr} {ccd : Value} {cl : List (PySem.Str × Addr)} {outer : List Env} {A₀ : Around} {base h₀ : Heap} {L : Addr} {m : PySem.Str → Option Value} {news : List (Addr × Obj)} {s : Shared} {Q E : Value → Shared → Prop} {l : Addr} {vs : List Value} {ns : List Int} {k : Int} {tk : Tok} (B : Below A₀ base outer h₀) (F : Fr h₀ L s.heap m) (X : (K w.params).In h₀)
    (N : News h₀ L s.heap news) (T : Top V (looseW V [PySem.Str.ofString "WORD"]) mean mg mb h₀) (hk : cs.kind = .function)
    (hdp : dp + 1 < recursionLimit) (hu : un + 8 < cLine) (hl : base.IsList l vs.toArray) (hi : IntsAre vs ns) (hn : ns.length ≤ 63) (hk0 : 0 ≤ k) (hk1 : k ≤ 2)
    (hret : ∀ D vs' h' tk', Src vs' → OwnOff news [D] → Fr h₀ L h' m → News h₀ L h' ((D, W.listOf vs'.toArray 0) :: news) → Q (.ref D) { s with heap := h', toks := tk' }),
    wpAny (model PySem.Challenge.rw_xm0737_01.row.prog w) (ktrTop dp un gd cn cs L a ccd cl outer) (PySem.call (.ref 28) [.ref l, .int k tk]) Q E s := by
  unfold PoolC at hC
  exact hC

end

section
variable {prog : Program} {w : World} {A : Around} {E : Value → Shared → Prop} {s : Shared} {env : Env} {h₀ : Heap} {x : PySem.Str} {body : List Stmt} {Q : Flow → Shared → Prop}
/-- a loop over a range by ones that keeps no name but its own -/
theorem plain_iter {r : Addr} {a₀ b₀ : Int} {t₀ u₀ v₀ : Tok} {n : Nat} {m₀ : PySem.Str → Option Value} {news : List (Addr × Obj)}
    (hh : A.handled = none) (hr : IsRange s.heap r a₀ b₀ 1 t₀ u₀ v₀) (hsmall : Builtin.Range.small a₀ b₀ 1 = true) (hn : Builtin.Range.rangeSize a₀ b₀ 1 = (n : Int)) (F : Fr h₀ env.locals s.heap m₀) (N : News h₀ env.locals s.heap news)
    (turn : ∀ (i : Nat) t h tk own, i < n → OwnOff own (news.map (·.1)) → Fr h₀ env.locals h (fun z => if z = x then some (.int (a₀ + i * 1) t) else m₀ z) → News h₀ env.locals h (news ++ own) →
      wpAny (model prog w) A (execs body env) (InvPostN h₀ env.locals (fun m' nx => nx = news ∧ ∀ z, z ≠ x → m' z = m₀ z) own (news.map (·.1)) { s with heap := h, toks := tk } Q) E { s with heap := h, toks := tk })
    (done : ∀ (u : PySem.Str → Option Value) h tk, Fr h₀ env.locals h (fun z => if z = x then u z else m₀ z) → News h₀ env.locals h news → Q .next { s with heap := h, toks := tk }) :
    wpAny (model prog w) A (pyIter (.ref r)) (fun it s₂ => LoopAtV prog w A h₀ env x body Q E it s₂) E s := by
  refine wpAny_pyIter_range hr hsmall ?_
  have W : Walks prog w A s.heap.objs.size [s.heap.objs.size] [s.heap.objs.size] n (fun i v => i < n ∧ ∃ t, v = .int (a₀ + i * 1) t)
      (fun i h => IsRangeIter h s.heap.objs.size (a₀ + (i : Nat) * 1) ((n : Int) - (i : Nat)) 1) := (Walks.range hh _ a₀ 1 n).bound
  refine loop_invN (fun i m nx => nx = news ∧ ∀ z, z ≠ x → m z = m₀ z) W ?_ ?_ ?_ ?_ (by show IsRangeIter _ _ _ _ _; rw [hn]; simpa using Heap.get?_push_size _ rfl) (F.push _) (fun p hp => ⟨Heap.get?_push_of_some _ (N p hp).1, (N p hp).2⟩) ⟨rfl, fun _ _ => rfl⟩ ?_ ?_
  · intro hm
    exact absurd F.ns.lt ((List.mem_singleton.mp hm) ▸ Nat.lt_irrefl _)
  · intro b hb
    rw [List.mem_singleton.mp hb]
    exact next_is_new F
  · intro p hp hI
    exact absurd (Heap.lt_size (N p hp).1) ((List.mem_singleton.mp hI) ▸ Nat.lt_irrefl _)
  · intro p hp hI
    exact absurd (Heap.lt_size (N p hp).1) ((List.mem_singleton.mp hI) ▸ Nat.lt_irrefl _)
  · rintro i v m₁ nx h tk own hi ⟨_, t, rfl⟩ _ ho ⟨rfl, hm⟩ F₁ N₁
    rw [map_none hm] at F₁
    exact turn i t h tk own hi ho F₁ N₁
  · rintro m₁ nx h tk ⟨rfl, hm⟩ F₁ N₁
    refine done m₁ h tk ?_ N₁
    rw [done_none hm]; exact F₁
end

theorem nine_in : KBa.In (List.replicate (Int.toNat 9) [(1 : Int)]).flatten := by
  unfold KBa.In
  decide

local macro_rules | `(tactic| mul_fits) => `(tactic| exact sq_ok2)
local macro_rules | `(tactic| mul_fits) => `(tactic| exact oct_ok (by assumption) (by assumption))
local macro_rules | `(tactic| walk_at "pyIter ref") => `(tactic| (k_here; (with_reducible show wpAny _ _ (pyIter (Value.ref _)) _ _ _); refine Stop.out ?_))
local macro_rules | `(tactic| walk_at "call ref") => `(tactic| (k_here; (with_reducible show wpAny _ _ (PySem.call (Value.ref 61) [Value.int _ _, Value.int _ _]) _ _ _); k_dflt (refine' told_use ?kC ?k1 ?k2 ?k3 ?k4 ?k5 ?kK ?kd ?ku ?_; (case kC => assumption); (case k1 => k_asm); (case k2 => k_asm); (case k3 => k_asm); (case k4 => k_asm); (case k5 => k_asm); (case kK => first | exact rfl | assumption); (case kd => ktr_room); (case ku => ktr_units)); intro h9 tk9 F9 N9; (try dsimp only); (try k_fold)))
local macro_rules | `(tactic| walk_at "call ref") => `(tactic| (k_here; (with_reducible show wpAny _ _ (PySem.call (Value.ref 35) [Value.ref _, Value.int _ _]) _ _ _); k_dflt (refine' take_use ?kC ?k1 ?k2 ?k3 ?k4 ?k5 ?kK ?kd ?ku ?ko ?kS ?kt ?_; (case kC => assumption); (case k1 => k_asm); (case k2 => k_asm); (case k3 => k_asm); (case k4 => k_asm); (case k5 => k_asm); (case kK => first | exact rfl | assumption); (case kd => ktr_room); (case ku => ktr_units); (case ko => assumption); (case kS => assumption); (case kt => (constructor <;> omega))); intro vs9 d9 t9 h9 tk9 hS9 hd9 he9 F9 N9; (try dsimp only); (try k_fold)))
local macro_rules | `(tactic| walk_at "call ref") => `(tactic| (k_here; (with_reducible show wpAny _ _ (PySem.call (Value.ref 42) [Value.ref _, Value.ref _]) _ _ _); k_dflt (refine' one_use ?kC ?k1 ?k2 ?k3 ?k4 ?k5 ?kK ?kd ?ku ?ko ?kS ?ki ?kl ?_; (case kC => assumption); (case k1 => k_asm); (case k2 => k_asm); (case k3 => k_asm); (case k4 => k_asm); (case k5 => k_asm); (case kK => first | exact rfl | assumption); (case kd => ktr_room); (case ku => ktr_units); (case ko => exact off_cons (by omega) (by assumption)); (case kS => assumption); (case ki => repeat constructor); (case kl => (constructor <;> (simp only [List.length_cons, List.length_nil]; omega)))); intro vs9 j9 t9 h9 tk9 hS9 hj9 F9 N9; (try dsimp only); (try k_fold)))
local macro_rules | `(tactic| walk_at "call ref") => `(tactic| (k_here; (with_reducible show wpAny _ _ (PySem.call (Value.ref 21) [Value.int _ _, Value.int _ _, Value.bytes _ _]) _ _ _); k_dflt (refine' sum_use ?kC ?k1 ?k2 ?k3 ?k4 ?k5 ?kK ?kd ?ku ?kb ?kl ?_; (case kC => assumption); (case k1 => k_asm); (case k2 => k_asm); (case k3 => k_asm); (case k4 => k_asm); (case k5 => k_asm); (case kK => first | exact rfl | assumption); (case kd => ktr_room); (case ku => ktr_units); (case kb => kba_ints); (case kl => kba_size)); intro t9 h9 tk9 F9 N9; (try dsimp only); (try k_fold)))
local macro_rules | `(tactic| walk_at "call ref") => `(tactic| (k_here; (with_reducible show wpAny _ _ (PySem.call (Value.ref 21) [Value.int _ _, Value.int _ _, Value.bytes _ _]) _ _ _); k_dflt (refine' sum_use ?kC ?k1 ?k2 ?k3 ?k4 ?k5 ?kK ?kd ?ku ?kb ?kl ?_; (case kC => assumption); (case k1 => k_asm); (case k2 => k_asm); (case k3 => k_asm); (case k4 => k_asm); (case k5 => k_asm); (case kK => first | exact rfl | assumption); (case kd => ktr_room); (case ku => ktr_units); (case kb => kba_ints); (case kl => ((try simp only [List.length_append, List.length_replicate]); omega))); intro t9 h9 tk9 F9 N9; (try dsimp only); (try k_fold)))
local macro_rules | `(tactic| walk_at "call ref") => `(tactic| (k_here; (with_reducible show wpAny _ _ (PySem.call (Value.ref 68) [Value.int _ _, Value.bytes _ _, Value.int _ _]) _ _ _); k_dflt (refine' due_use ?kC ?k1 ?k2 ?k3 ?k4 ?k5 ?kK ?kd ?ku ?kb ?kl ?_; (case kC => assumption); (case k1 => k_asm); (case k2 => k_asm); (case k3 => k_asm); (case k4 => k_asm); (case k5 => k_asm); (case kK => first | exact rfl | assumption); (case kd => ktr_room); (case ku => ktr_units); (case kb => kba_ints); (case kl => ((try simp only [List.length_append, List.length_replicate]); omega))); intro t9 h9 tk9 F9 N9; (try dsimp only); (try k_fold)))
local macro_rules | `(tactic| walk_at "call ref") => `(tactic| (k_here; (with_reducible show wpAny _ _ (PySem.call (Value.ref 49) [Value.ref _]) _ _ _); k_dflt (refine' word_use ?kC ?k1 ?k2 ?k3 ?k4 ?k5 ?kK ?kd ?ku ?ko ?kS ?_; (case kC => assumption); (case k1 => k_asm); (case k2 => k_asm); (case k3 => k_asm); (case k4 => k_asm); (case k5 => k_asm); (case kK => first | exact rfl | assumption); (case kd => ktr_room); (case ku => ktr_units); (case ko => assumption); (case kS => assumption)); intro vs9 w9 t9 h9 tk9 hS9 hd9 he9 F9 N9; (try dsimp only); (try k_fold)))
local macro_rules | `(tactic| walk_at "call ref") => `(tactic| (k_here; (with_reducible show wpAny _ _ (PySem.call (Value.ref 54) [Value.ref _]) _ _ _); k_dflt (refine' octets_use ?kC ?k1 ?k2 ?k3 ?k4 ?k5 ?kK ?kd ?ku ?ko ?kS ?_; (case kC => assumption); (case k1 => k_asm); (case k2 => k_asm); (case k3 => k_asm); (case k4 => k_asm); (case k5 => k_asm); (case kK => first | exact rfl | assumption); (case kd => ktr_room); (case ku => ktr_units); (case ko => assumption); (case kS => assumption)); intro vs9 b9 ks9 t9 h9 tk9 hS9 hb9 hl9 F9 N9; (try dsimp only); (try k_fold)))
local macro_rules | `(tactic| walk_at "call type:bytes") => `(tactic| (k_here; (with_reducible show wpAny _ _ (PySem.call (Value.type "bytes") [Value.int _ _]) _ _ _); (refine call_bytes_int (by omega) (by omega) ?_); intro b9 t9 k9 hb9))
local macro_rules | `(tactic| walk_at "binaryOp Add bytes bytes") => `(tactic| (k_here; (with_reducible show wpAny _ _ (binaryOp Operator.Add (Value.bytes _ _) (Value.bytes _ _)) _ _ _); (refine KBa.add_K (by kba_ints) (by kba_ints) (by (simp only [List.length_append, List.length_replicate]; omega)) ?_); intro _ _ kbaApp))
local macro_rules | `(tactic| walk_at "call ref") => `(tactic| (k_here; (with_reducible show wpAny _ _ (PySem.call (Value.ref 21) [Value.int _ _, Value.int _ _, Value.bytes _ _]) _ _ _); k_dflt (refine' sum_use ?kC ?k1 ?k2 ?k3 ?k4 ?k5 ?kK ?kd ?ku ?kb ?kl ?_; (case kC => assumption); (case k1 => k_asm); (case k2 => k_asm); (case k3 => k_asm); (case k4 => k_asm); (case k5 => k_asm); (case kK => first | exact rfl | assumption); (case kd => ktr_room); (case ku => ktr_units); (case kb => first | kba_ints | exact rfl); (case kl => decide)); intro t9 h9 tk9 F9 N9; (try dsimp only); (try k_fold)))
local macro_rules | `(tactic| walk_at "call ref") => `(tactic| (k_here; (with_reducible show wpAny _ _ (PySem.call (Value.ref 28) [Value.ref _, Value.int _ _]) _ _ _); k_dflt (refine' pool_use ?kC ?k1 ?k2 ?k3 ?k4 ?k5 ?kK ?kd ?ku ?kl ?ki ?kn ?k6 ?k7 ?_; (case kC => assumption); (case k1 => k_asm); (case k2 => k_asm); (case k3 => k_asm); (case k4 => k_asm); (case k5 => k_asm); (case kK => first | exact rfl | assumption); (case kd => ktr_room); (case ku => ktr_units); (case kl => assumption); (case ki => assumption); (case kn => omega); (case k6 => omega); (case k7 => omega)); intro D9 vs9 h9 tk9 hS9 ho9 F9 N9; (try dsimp only); (try k_fold)))
local macro_rules | `(tactic| walk_at "call ref") => `(tactic| (k_here; (with_reducible show wpAny _ _ (PySem.call (Value.ref 82) [Value.ref _]) _ _ _); k_dflt (refine' right_use ?kC ?k1 ?k2 ?k3 ?k4 ?k5 ?kK ?kd ?ku ?ko ?kS ?_; (case kC => assumption); (case k1 => k_asm); (case k2 => k_asm); (case k3 => k_asm); (case k4 => k_asm); (case k5 => k_asm); (case kK => first | exact rfl | assumption); (case kd => ktr_room); (case ku => ktr_units); (case ko => assumption); (case kS => assumption)); intro h9 tk9 F9 N9; (try dsimp only); (try k_fold)))
local macro_rules | `(tactic| walk_at "call type:bytes") => `(tactic| (k_here; (with_reducible show wpAny _ _ (PySem.call (Value.type "bytes") [Value.ref _]) _ _ _); k_dflt (refine' KBa.make_K ?kbaF ?kbaN ?kbah ?kbal ?kbai ?kbar ?kban ?_; (case kbaF => k_asm); (case kbaN => k_asm); (case kbah => rfl); (case kbal => kba_isList); (case kbai => kba_listInts); (case kbar => exact nine_in); (case kban => decide)); intro _ _ _ F' N' kbaIn))

set_option maxRecDepth 100000 in
set_option maxHeartbeats 40000000 in
theorem holds : PySem.Challenge.rw_xm0737_01.Holds := by
  w_on
  o_law
  k_head
  case hw => w_witness2
  refine with_ctr (C := ToldC) ?ctold fun toldOk => ?_
  case ctold =>
    as_aux_lemma =>
      unfold ToldC
      intro w mean mg mb dp un gd cn cs a ccd cl outer A₀ base h₀ L m news s Q E x y tx ty B F X N T hk hdp hu hret
      revert X; k_fill; intro X
      refine wpAny_call ?_
      k_dflt cell_enter
      k_steps
      all_goals (
        have e : ((y - 1 - x).fmod 8 == 0) = decide ((y - 1 - x) % 8 = 0) := by
          rw [Int.fmod_eq_emod_of_nonneg _ (by decide)]; rfl
        rw [e]
        exact hret _ _ (by assumption) (by assumption))
  refine with_ctr (C := TakeC) ?ctake fun takeOk => ?_
  case ctake =>
    as_aux_lemma =>
      unfold TakeC
      intro w mean mg mb dp un gd cn cs a ccd cl outer A₀ base h₀ L m news s Q E src top tt n vs B F X N T hk hdp hu hoff hS ht hret
      obtain ⟨x, y, hI, hx, hy, hy2⟩ := hS
      revert X; k_fill; intro X
      refine wpAny_call ?_
      k_dflt cell_enter
      k_steps
      · rename IntsAre (List.set _ _ _) _ => hi9
        refine hret _ _ _ _ _ ⟨_, _, hi9, ?_, ?_, ?_⟩ ?_ ?_ (by assumption) (by assumption)
        · exact Int.fdiv_nonneg hx (by omega)
        · exact hy
        · exact hy2
        · exact fmod_lo _ (by omega)
        · exact fmod_hi _ (by omega)
      · rename IntsAre (List.set _ _ _) _ => hi9
        refine hret _ _ _ _ _ ⟨_, _, hi9, ?_, ?_, ?_⟩ ?_ ?_ (by assumption) (by assumption)
        · exact hx
        · exact fmod_lo _ (by decide)
        · exact fmod_hi _ (by decide)
        · exact fmod_lo _ (by omega)
        · exact fmod_hi _ (by omega)
  refine with_ctr (C := SumC) ?csum fun sumOk => ?_
  case csum =>
    as_aux_lemma =>
      unfold SumC
      intro w mean mg mb dp un gd cn cs a ccd cl outer A₀ base h₀ L m news s Q E nonce page tn tp tb b ks B F X N T hk hdp hu hb hl hret
      revert X; k_fill; intro X
      refine wpAny_call ?_
      k_dflt cell_enter
      k_steps
      unfold Stop
      rename Fr _ _ _ _ => lF
      rename News _ _ _ _ => lN
      rename IsRange _ _ _ _ _ _ _ _ => rgX
      have s1 := small_down8 hl
      have s2 := size_down8 (n := ks.length)
      with_unfolding_all refine' step_iter (y := PySem.Str.ofString "total") (fun i => nonce + page + (dueP ks.length (fun j => ks.getD j 0) 0 ks.length - dueP ks.length (fun j => ks.getD j 0) 0 (ks.length - 8 * i))) ?hG (by rfl) (by exact rgX) (by exact s1) (by exact s2) lF lN (by rfl) ?turn ?done
      case hG => simp
      case turn =>
        clear lF lN rgX
        intro i' t' ta' h' tk' own' hi' ho' F' N'
        try dsimp only at F'
        k_fold
        obtain ⟨k, hk8, hk7⟩ : ∃ k : Nat, k + 8 * i' + 1 = ks.length ∧ ((ks.length : Int) - 1 + (i' : Int) * -8) = (k : Int) := ⟨ks.length - 1 - 8 * i', by omega, by omega⟩
        rw [hk7] at F'
        clear s1 s2 hk7
        have hk0 : (0 : Int) ≤ (k : Int) := by omega
        have hk1 : (k : Int) < (ks.length : Int) := by omega
        k_steps
        have hq : ((ks.length : Int) - 1 - (k : Int)) % 8 = 0 := by omega
        have hb9 := dueP_back (f := fun j => ks.getD j 0) (c := 0) hq
        have e1 : ks.length - 8 * i' = k + 1 := by omega
        have e2 : ks.length - 8 * (i' + 1) = k + 1 - 8 := by omega
        have e9 : nonce + page + (dueP ks.length (fun j => ks.getD j 0) 0 ks.length - dueP ks.length (fun j => ks.getD j 0) 0 (ks.length - 8 * i')) + ks.getD ((k : Int)).toNat 0 * ((k : Int) + 1) = nonce + page + (dueP ks.length (fun j => ks.getD j 0) 0 ks.length - dueP ks.length (fun j => ks.getD j 0) 0 (ks.length - 8 * (i' + 1))) := by
          rw [e1, e2, hb9, Int.toNat_natCast, Int.add_zero]
          omega
        refine' InvEndN.intro (by assumption) (by assumption) ⟨rfl, ⟨_, ?e⟩, ?same⟩ rfl (fun p hp => List.mem_append.mpr (.inl hp)) (fun p hp => List.mem_append.mpr (.inr hp))
        case e =>
          refine (if_pos rfl).trans ?_
          exact congrArg (fun v => some (Value.int v _)) e9
        case same =>
          intro z h1 h2
          simp [h1, h2]
      case done =>
        clear lF lN rgX s1 s2
        intro u' t' h' tk' F' N'
        try dsimp only at F'
        (try dsimp only)
        (try k_fold)
        k_steps
        have e1 : ks.length - 8 * ((ks.length + 7) / 8) = 0 := by omega
        have e2 : (nonce + page + (dueP ks.length (fun j => ks.getD j 0) 0 ks.length - dueP ks.length (fun j => ks.getD j 0) 0 (ks.length - 8 * ((ks.length + 7) / 8)))).fmod 4294967296 = told (nonce + page) ks := by
          rw [e1, Int.fmod_eq_emod_of_nonneg _ (by decide)]
          show (nonce + page + (_ - 0)) % 4294967296 = _
          rw [Int.sub_zero]
          rfl
        rw [e2]
        exact hret _ _ _ (by assumption) (by assumption)
  refine with_ctr (C := DueC) ?cdue fun dueOk => ?_
  case cdue =>
    as_aux_lemma =>
      unfold DueC
      intro w mean mg mb dp un gd cn cs a ccd cl outer A₀ base h₀ L m news s Q E start more ts tb tm b ks B F X N T hk hdp hu hb hl hret
      revert X; k_fill; intro X
      refine wpAny_call ?_
      k_dflt cell_enter
      k_steps
      unfold Stop
      rename Fr _ _ _ _ => lF
      rename News _ _ _ _ => lN
      rename IsRange _ _ _ _ _ _ _ _ => rgX
      have s1 := small_up hl
      have s2 := size_up (n := ks.length)
      with_unfolding_all refine' step_iter (y := PySem.Str.ofString "total") (fun i => start + dueP ks.length (fun j => ks.getD j 0) more i) ?hG (by rfl) (by exact rgX) (by exact s1) (by exact s2) lF lN (by rfl) ?turn ?done
      case hG => exact (Int.add_zero _).symm
      case turn =>
        clear lF lN rgX
        intro i' t' ta' h' tk' own' hi' ho' F' N'
        try dsimp only at F'
        k_fold
        have hk7 : ((0 : Int) + (i' : Int) * 1) = (i' : Int) := by omega
        rw [hk7] at F'
        clear s1 s2 hk7
        have hk0 : (0 : Int) ≤ (i' : Int) := by omega
        have hk1 : (i' : Int) < (ks.length : Int) := by omega
        k_steps
        · rename (_ - 1 - _) % 8 = 0 => ht
          have e9 : start + dueP ks.length (fun j => ks.getD j 0) more i' + ks.getD ((i' : Int)).toNat 0 * ((i' : Int) + 1 + more) = start + dueP ks.length (fun j => ks.getD j 0) more (i' + 1) := by
            show _ = start + (dueP ks.length (fun j => ks.getD j 0) more i' + if _ then _ else _)
            rw [if_pos ht, Int.toNat_natCast, Int.add_assoc]
          refine' InvEndN.intro (by assumption) (by assumption) ⟨rfl, ⟨_, ?e⟩, ?same⟩ rfl (fun p hp => List.mem_append.mpr (.inl hp)) (fun p hp => List.mem_append.mpr (.inr hp))
          case e =>
            refine (if_pos rfl).trans ?_
            exact congrArg (fun v => some (Value.int v _)) e9
          case same =>
            intro z h1 h2
            simp [h1, h2]
        · rename ¬ (_ - 1 - _) % 8 = 0 => ht
          have e9 : start + dueP ks.length (fun j => ks.getD j 0) more i' = start + dueP ks.length (fun j => ks.getD j 0) more (i' + 1) := by
            show _ = start + (dueP ks.length (fun j => ks.getD j 0) more i' + if _ then _ else _)
            rw [if_neg ht, Int.add_zero]
          refine' InvEndN.intro (by assumption) (by assumption) ⟨rfl, ⟨_, ?e⟩, ?same⟩ rfl (fun p hp => List.mem_append.mpr (.inl hp)) (fun p hp => List.mem_append.mpr (.inr hp))
          case e =>
            refine (if_neg (by decide)).trans ?_
            refine (if_pos rfl).trans ?_
            exact congrArg (fun v => some (Value.int v _)) e9
          case same =>
            intro z h1 h2
            simp [h1, h2]
      case done =>
        clear lF lN rgX s1 s2
        intro u' t' h' tk' F' N'
        try dsimp only at F'
        (try dsimp only)
        (try k_fold)
        k_steps
        have e2 : (start + dueP ks.length (fun j => ks.getD j 0) more ks.length).fmod (2 ^ Int.toNat 32) = dueL start ks more := by
          have e3 : (2 : Int) ^ Int.toNat 32 = 4294967296 := by decide
          rw [e3, Int.fmod_eq_emod_of_nonneg _ (by decide)]
          rfl
        rw [e2]
        exact hret _ _ _ (by assumption) (by assumption)
  refine with_ctr (C := OneC) ?cone fun oneOk => ?_
  case cone =>
    as_aux_lemma =>
      unfold OneC
      intro w mean mg mb dp un gd cn cs a ccd cl outer A₀ base h₀ L m news s Q E src thg vs vt ns n k B F X N T hk hdp hu hoff hS hi hl hret
      replace N := swap2 N
      obtain ⟨hl1, hl2⟩ := hl
      revert X; k_fill; intro X
      refine wpAny_call ?_
      k_dflt cell_enter
      k_steps
      rename _ < (ns.length : Int) => he
      rename Src _ => hS9
      rename News _ _ _ ((src, _) :: _) => N9
      refine hret _ _ _ _ _ hS9 (getD_mem (by assumption) he) (by assumption) (cb_drop N9 ?_)
      intro p hp
      rcases List.mem_cons.mp hp with rfl | hp
      · exact .head _
      · exact .tail _ (.tail _ hp)
  refine with_ctr (C := WordC) ?cword fun wordOk => ?_
  case cword =>
    as_aux_lemma =>
      unfold WordC
      intro w mean mg mb dp un gd cn cs a ccd cl outer A₀ base h₀ L m news s Q E src vs n B F X N T hk hdp hu hoff hS hret
      revert X; k_fill; intro X
      refine wpAny_call ?_
      k_dflt cell_enter
      k_steps
      rename _ ∈ _ => hj
      have hj2 : 0 ≤ (_ : Int) ∧ _ < (4294967296 : Int) := word_bd hj (by assumption) (by assumption)
      exact hret _ _ _ _ _ (by assumption) hj2.1 hj2.2 (by assumption) (by assumption)
  refine with_ctr (C := OctetsC) ?coctets fun octetsOk => ?_
  case coctets =>
    as_aux_lemma =>
      unfold OctetsC
      intro w mean mg mb dp un gd cn cs a ccd cl outer A₀ base h₀ L m news s Q E src vs n B F X N T hk hdp hu hoff hS hret
      revert X; k_fill; intro X
      refine wpAny_call ?_
      k_dflt (refine' code_defC ?k1 ?k2 ?k3 ?k4 ?k5 ?kA ?kF ?kK ?k6 ?k7 ?k8 ?k9 ?kB ?kD ?_ ?c2 ?c3 ?c4; (case kA => exact rfl); (case kF => exact rfl); (case kK => assumption); (case k1 => k_asm); (case k2 => k_asm); (case k3 => k_asm); (case k4 => k_asm); (case k5 => k_asm); (case k6 => k_is); (case k7 => k_is); (case k8 => ktr_room); (case k9 => exact BindsTo.of_eq rfl); (case kB => exact rfl); (case kD => decide +kernel); (case c2 => exact rfl); (case c3 => exact rfl); (case c4 => exact rfl); k_whole; intro g' L' h' tk' cells' FG' F' N' Y' B' X' T' l1; (try k_lt l1); k_cells Y'; (try simp only [List.cons_append, List.nil_append] at N'); (try dsimp only); (try k_lift B'); (try k_fold))
      replace N' := swap2 N'
      rename Obj => oc
      have hoff2 := off_cons (thg := L' + 1) (o := oc) (by omega) hoff
      k_steps
      rename _ ∈ _ => hj
      have hj2 : 0 ≤ (_ : Int) ∧ _ ≤ (60 : Int) := many_bd hj (by assumption) (by assumption)
      rename Src _ => hS2
      clear hj
      obtain ⟨hlo, hhi⟩ := hj2
      rename IsRange _ _ _ _ _ _ _ _ => rgX
      refine LCg.CompSrc.range (by rfl) (by k_asm) (by k_asm) rgX (small_one (by omega) (by omega) (by omega) (by omega)) (rangeSize_nat _ _) (by rw [PySem.sizeLine_eq]; omega) ?_
      intro gg
      refine comp_inv (fun us => (src, W.listOf us.toArray n) :: (L' + 1, oc) :: news) Src (fun k => 0 ≤ k ∧ k < 256) _ hS2 ?turn ?fin
      case turn =>
        intro c v I oI C oC D m₂ ys h tk E' hc hC hx F' N' off ne
        obtain ⟨⟨o1, o2, o3⟩, off2⟩ := off
        dsimp only at o1 o2 o3
        have hoff3 : OwnOff ((I, oI) :: (C, oC) :: (D, LCg.lst ys) :: (L' + 1, oc) :: news) [src] := by
          intro p hp b hb
          rw [List.mem_singleton.mp hb]
          rcases List.mem_cons.mp hp with rfl | hp
          · exact Ne.symm o1
          · rcases List.mem_cons.mp hp with rfl | hp
            · exact Ne.symm o2
            · rcases List.mem_cons.mp hp with rfl | hp
              · exact Ne.symm o3
              · exact hoff2 p hp src (List.mem_singleton.mpr rfl)
        replace N' := rot4 N'
        k_unmd
        k_fold
        k_steps
        rename _ ∈ _ => hj
        have hj2 : 0 ≤ (_ : Int) ∧ _ < (256 : Int) := octet_bd hj (by assumption) (by assumption)
        rename Src _ => hS3
        rename List Value => us
        refine LCg.CompEnd.intro (by assumption) (by assumption) ((src, W.listOf us.toArray n) :: (L' + 1, oc) :: news) ?sub ?off True.intro ⟨⟨us, rfl, hS3⟩, _, _, rfl, hj2⟩
        case sub =>
          intro p hp
          rcases List.mem_cons.mp hp with rfl | hp
          · exact .tail _ (.head _)
          · rcases List.mem_cons.mp hp with rfl | hp
            · exact .tail _ (.tail _ (.head _))
            · rcases List.mem_cons.mp hp with rfl | hp
              · exact .tail _ (.tail _ (.tail _ (.head _)))
              · rcases List.mem_cons.mp hp with rfl | hp
                · exact .head _
                · exact .tail _ (.tail _ (.tail _ (.tail _ hp)))
        case off => exact ⟨⟨o1, o2, o3⟩, off2⟩
      case fin =>
        intro c ys ks hc hi hl hr
        k_steps
        have h1 : KBw.bInts (byteArr ks) = ks := KBa.ints_make hr
        exact hret _ _ ks _ _ _ hc h1 (by omega) (by assumption) (cb_drop (by assumption) (by
          intro p hp
          rcases List.mem_cons.mp hp with rfl | hp
          · exact .tail _ (.head _)
          · exact .tail _ (.tail _ (.tail _ hp))))
  refine with_ctr (C := ChangedC) ?cchanged fun changedOk => ?_
  case cchanged =>
    as_aux_lemma =>
      unfold ChangedC
      intro w mean mg mb dp un gd cn cs a ccd cl outer A₀ base h₀ L m news s Q E src vs n nonce page tn tp tb b ks B F X N T hk hdp hu hoff hS hb hl1 hl2 hret
      revert X; k_fill; intro X
      refine wpAny_call ?_
      k_dflt cell_enter
      k_steps
      · rename ¬ _ = (0 : Int) => hne
        refine (hne (law_told _ ?_ ?_ (byte_one ?_) ?_)).elim <;> assumption
      · rw [law_last _ hl1 (byte_one (by assumption))]
        rename Src _ => hS9
        refine hret _ _ _ hS9 (by assumption) (cb_drop (by assumption) ?_)
        intro p hp
        exact .tail _ (.tail _ (.tail _ hp))
      · rename ¬ _ = (0 : Int) => hne
        refine (hne (law_not _ ?_ ?_ (byte_one ?_) ?_)).elim <;> assumption
      · rw [law_last _ hl1 (byte_one (by assumption))]
        rename Src _ => hS9
        refine hret _ _ _ hS9 (by assumption) (cb_drop (by assumption) ?_)
        intro p hp
        exact .tail _ (.tail _ (.tail _ hp))
  refine with_ctr (C := RightC) ?cright fun rightOk => ?_
  case cright =>
    as_aux_lemma =>
      unfold RightC
      intro w mean mg mb dp un gd cn cs a ccd cl outer A₀ base h₀ L m news s Q E src vs n B F X N T hk hdp hu hoff hS hret
      revert X; k_fill; intro X
      refine wpAny_call ?_
      k_dflt cell_enter
      k_steps
      · rename _ ≠ _ => hne
        exact (hne (told_due _ _)).elim
      · rename _ ≠ _ => hne
        exact (hne (told_comm _ _ _)).elim
      · rename _ ≠ _ => hne
        exact (hne (told_ahead2 (by assumption))).elim
      · rename _ ≠ _ => hne
        exact (hne (told_behind _ _)).elim
      · rename _ ≠ _ => hne
        exact (hne (told_zero _ _)).elim
      · rename (_ == _) = true => he
        have he2 : ∀ x : List UInt8, (x == ([] : List UInt8)) = (x == (#[] : Array UInt8).toList) := fun _ => rfl
        rw [he2, he]
        rename Src _ => hS9
        refine hret _ _ (by assumption) (cb_drop (by assumption) ?_)
        intro p hp
        exact .tail _ (.tail _ hp)
      · rename (_ == _) = false => he
        rename KBw.bInts _ = (_ : List Int) => hzz
        rename News _ _ _ _ => N9
        replace N9 := swap2 N9
        k_dflt (refine' changed_use ?kC ?k1 ?k2 ?k3 ?k4 ?k5 ?kK ?kd ?ku ?ko ?kS ?kb ?kl1 ?kl2 ?_; (case kC => assumption); (case k1 => k_asm); (case k2 => k_asm); (case k3 => k_asm); (case k4 => exact N9); (case k5 => k_asm); (case kK => exact rfl); (case kd => ktr_room); (case ku => ktr_units); (case ko => exact off_cons (by omega) (by assumption)); (case kS => assumption); (case kb => assumption); (case kl2 => assumption))
        case kl1 => exact len_pos (by assumption) he
        intro vs8 h8 tk8 hS8 F8 N8
        (try dsimp only)
        (try k_fold)
        k_steps
        refine hret _ _ (by assumption) (cb_drop (by assumption) ?_)
        intro p hp
        exact .tail _ (.tail _ hp)
  refine with_ctr (C := PoolC) ?cpool fun poolOk => ?_
  case cpool =>
    as_aux_lemma =>
      unfold PoolC
      intro w mean mg mb dp un gd cn cs a ccd cl outer A₀ base h₀ L m news s Q E l vs ns k tk B F X N T hk hdp hu hl hi hn hk0 hk1 hret
      revert X; k_fill; intro X
      refine wpAny_call ?_
      k_dflt cell_enter
      k_steps
      all_goals (
        rename News _ _ _ (_ :: _) => N9
        refine hret _ _ _ _ ?gS ?gO (by assumption) N9
        case gS => exact src_of _ _
        case gO => exact off_lt (by assumption))
  w_strict (
    k_go0
    (all_goals try k_fold)
    k_steps
    all_goals (
      unfold Stop
      rename Fr _ _ _ _ => lF
      rename News _ _ _ _ => lN
      rename IsRange _ _ _ _ _ _ _ _ => rgX
      with_unfolding_all refine' plain_iter (by rfl) (by exact rgX) (small_one (by omega) (by omega) (by omega) (by omega)) (rangeSize_nat _ _) lF lN ?gT ?gD
      case gT =>
        clear lF lN rgX
        intro i' t' h' tk' own' hi' ho' F' N'
        try dsimp only at F'
        k_fold
        have hk7 : ((0 : Int) + (i' : Int) * 1) = (i' : Int) := by omega
        rw [hk7] at F'
        clear hk7
        k_steps
      case gD =>
        clear lF lN rgX
        intro u' h' tk' F' N'
        try dsimp only at F'
        (try dsimp only)
        (try k_fold)
        k_steps))
end Mine

theorem PySem.Challenge.cw_xm0737_01_holds : PySem.Challenge.rw_xm0737_01.Holds := by
  exact Mine.holds
