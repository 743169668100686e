import PyProof.Rows.All
import Wide.All
import OpenK.AllK
import Wide.FinOn
import PySem.Challenge.RW_nn0001_01
open PySem PySem.W PyProof.Rows
set_option Elab.async false
namespace Mine
set_option maxRecDepth 100000 in
set_option maxHeartbeats 8000000 in
open_top hd for PySem.Challenge.rw_nn0001_01
end Mine
open PySem PySem.W PySem.Spec PySem.Calls PyProof.Rows
namespace Mine
theorem filled (w : World) : (PySem.Challenge.rw_nn0001_01.prog = PySem.Challenge.rw_nn0001_01.prog) ∧ Mine.hd.heap_39 w.params = Mine.hd.heap_39 w.params := by
  k_fill
  exact ⟨rfl, rfl⟩
end Mine
/-! ## Loops -/
namespace Mine
abbrev Led := List (Addr × Obj)
abbrev Loc := Str → Option Value

def TEnd (h₀ : Heap) (L : Addr) (rest : Led) (adr : List Addr) (J : Loc → Led → Prop) (s₁ s₂ : Shared) : Prop :=
  ∃ h' tk m' C', s₂ = { s₁ with heap := h', toks := tk } ∧ Fr h₀ L h' m' ∧ News h₀ L h' (C' ++ rest) ∧ C'.map (·.1) = adr ∧ J m' C'
def TPost (h₀ : Heap) (L : Addr) (rest : Led) (adr : List Addr) (J : Loc → Led → Prop) (s₁ : Shared) (Q : Flow → Shared → Prop) (f : Flow) (s₂ : Shared) : Prop :=
  match f with
  | .ret v => Q (.ret v) s₂
  | .brk => Q .next s₂
  | _ => TEnd h₀ L rest adr J s₁ s₂

section
variable {prog : Program} {w : World} {A : Around} {E : Value → Shared → Prop} {s : Shared} {env : Env} {h₀ : Heap} {x : Str} {target : Expr} {body : List Stmt} {Q : Flow → Shared → Prop}

theorem for_name {I : Addr} {fp wr : List Addr} {n : Nat} {P : Nat → Value → Prop} {St : Nat → Heap → Prop} {m : Loc} {C rest : Led} (J : Nat → Loc → Led → Prop)
    (W : Walks prog w A I fp wr n P St) (hLf : env.locals ∉ fp) (hwr : ∀ b ∈ wr, h₀.get? b = none) (hnw : ∀ p ∈ C ++ rest, p.1 ∉ wr) (hfp : ∀ p ∈ C, p.1 ∉ fp)
    (hst : St 0 s.heap) (F : Fr h₀ env.locals s.heap m) (N : News h₀ env.locals s.heap (C ++ rest)) (hoff : ∀ p ∈ rest, ∀ a ∈ C.map (·.1), p.1 ≠ a) (h0 : J 0 m C)
    (turn : ∀ i v m₁ C₁ rest' h tk, i < n → P i v → J i m₁ C₁ → C₁.map (·.1) = C.map (·.1) → (∀ p ∈ rest, p ∈ rest') → (∀ p ∈ rest', ∀ a ∈ C.map (·.1), p.1 ≠ a) → Fr h₀ env.locals h (fun y => if y = x then some v else m₁ y) → News h₀ env.locals h (C₁ ++ rest') →
      wpAny (model prog w) A (execs body env) (TPost h₀ env.locals rest' (C.map (·.1)) (J (i + 1)) { s with heap := h, toks := tk } Q) E { s with heap := h, toks := tk })
    (done : ∀ m₁ C₁ h tk, J n m₁ C₁ → C₁.map (·.1) = C.map (·.1) → Fr h₀ env.locals h m₁ → News h₀ env.locals h (C₁ ++ rest) → Q .next { s with heap := h, toks := tk }) :
    LoopAtV prog w A h₀ env x body Q E (.ref I) s := by
  refine ⟨I, fp, wr, n, P, St, m, C ++ rest, fun i m₁ news₁ => ∃ C₁, news₁ = C₁ ++ rest ∧ C₁.map (·.1) = C.map (·.1) ∧ J i m₁ C₁, rfl, W, hLf, hwr, hnw, hst, F, N, ⟨C, rfl, rfl, h0⟩, ?_, ?_⟩
  · rintro i v m₁ news₁ s₁ own ⟨h, tk, rfl⟩ hin hP ⟨C₁, rfl, hadr, hJ⟩ hnw₁ hown _ _ _ F₁ N₁
    have hsep : ∀ p ∈ own ++ rest, ∀ a ∈ C.map (·.1), p.1 ≠ a := by
      intro p hp a ha e
      rcases List.mem_append.mp hp with h1 | h1
      · obtain ⟨q, hq, hqa⟩ := List.mem_map.mp ha
        exact hfp q hq (by rw [hqa, ← e]; exact hown p h1)
      · exact hoff p h1 a ha e
    have N₂ : News h₀ env.locals h (C₁ ++ (own ++ rest)) := fun p hp => N₁ p (by
      simp only [List.mem_append] at hp ⊢
      rcases hp with h1 | h1 | h1
      · exact .inr (.inl h1)
      · exact .inl h1
      · exact .inr (.inr h1))
    refine wpAny_mono (turn i v m₁ C₁ (own ++ rest) h tk hin hP hJ hadr (fun p hp => List.mem_append_right _ hp) hsep F₁ N₂) (fun f s₂ p => ?_) fun _ _ e => e
    have fin : TEnd h₀ env.locals (own ++ rest) (C.map (·.1)) (J (i + 1)) { s with heap := h, toks := tk } s₂ → LoopStepU h₀ env.locals wr own (fun m₁ news₁ => ∃ C₁, news₁ = C₁ ++ rest ∧ C₁.map (·.1) = C.map (·.1) ∧ J (i + 1) m₁ C₁) { s with heap := h, toks := tk } .next s₂ := by
      rintro ⟨h', tk', m', C', e, F', N', ha, hj⟩
      refine ⟨rfl, h', tk', m', C' ++ rest, e, F', fun p hp => N' p ?_, ?_, C', rfl, ha, hj⟩
      · simp only [List.mem_append] at hp ⊢
        rcases hp with h1 | h1 | h1
        · exact .inr (.inl h1)
        · exact .inl h1
        · exact .inr (.inr h1)
      · intro p hp hI
        rcases List.mem_append.mp hp with h1 | h1
        · have h2 : p.1 ∈ C.map (·.1) := by rw [← ha]; exact List.mem_map.mpr ⟨p, h1, rfl⟩
          obtain ⟨q, hq, hqa⟩ := List.mem_map.mp h2
          exact hfp q hq (by rw [hqa]; exact W.sub _ hI)
        · exact hnw p (List.mem_append_right _ h1) hI
    cases f with
    | ret v => exact .ret p
    | brk => exact .brk p
    | next => exact .next (fin p)
    | cont => exact .cont (fin p)
  · rintro h' tk m' news' F' N' _ ⟨C₁, rfl, hadr, hJ⟩
    exact done m' C₁ h' tk hJ hadr F' N'

theorem for_any {I : Addr} {fp wr : List Addr} {n : Nat} {P Md : Nat → Value → Heap → Prop} {St : Nat → Heap → Prop} {m : Loc} {C rest : Led} (J : Nat → Loc → Led → Prop)
    (W : KTurns prog w A target I fp wr n P Md St) (hLf : env.locals ∉ fp) (hwr : ∀ b ∈ wr, h₀.get? b = none) (hnw : ∀ p ∈ C ++ rest, p.1 ∉ wr) (hfp : ∀ p ∈ C, p.1 ∉ fp)
    (hst : St 0 s.heap) (F : Fr h₀ env.locals s.heap m) (N : News h₀ env.locals s.heap (C ++ rest)) (hoff : ∀ p ∈ rest, ∀ a ∈ C.map (·.1), p.1 ≠ a) (h0 : J 0 m C)
    (turn : ∀ i v m₁ C₁ rest' h tk, i < n → P i v h → J i m₁ C₁ → C₁.map (·.1) = C.map (·.1) → (∀ p ∈ rest, p ∈ rest') → (∀ p ∈ rest', ∀ a ∈ C.map (·.1), p.1 ≠ a) → Fr h₀ env.locals h m₁ → News h₀ env.locals h (C₁ ++ rest') →
      wpAny (model prog w) A (assign target env v) (fun _ s₂ => wpAny (model prog w) A (execs body env) (TPost h₀ env.locals rest' (C.map (·.1)) (J (i + 1)) { s with heap := h, toks := tk } Q) E s₂) E { s with heap := h, toks := tk })
    (done : ∀ m₁ C₁ h tk, J n m₁ C₁ → C₁.map (·.1) = C.map (·.1) → Fr h₀ env.locals h m₁ → News h₀ env.locals h (C₁ ++ rest) → Q .next { s with heap := h, toks := tk }) :
    TurnsAt prog w A h₀ env target body Q E (.ref I) s := by
  refine ⟨I, fp, wr, n, P, Md, St, m, C ++ rest, fun i m₁ news₁ => ∃ C₁, news₁ = C₁ ++ rest ∧ C₁.map (·.1) = C.map (·.1) ∧ J i m₁ C₁, rfl, W, hLf, hwr, hnw, hst, F, N, ⟨C, rfl, rfl, h0⟩, ?_, ?_⟩
  · rintro i v m₁ news₁ h tk own hin hP ⟨C₁, rfl, hadr, hJ⟩ hnw₁ hown _ _ _ F₁ N₁
    have hsep : ∀ p ∈ own ++ rest, ∀ a ∈ C.map (·.1), p.1 ≠ a := by
      intro p hp a ha e
      rcases List.mem_append.mp hp with h1 | h1
      · obtain ⟨q, hq, hqa⟩ := List.mem_map.mp ha
        exact hfp q hq (by rw [hqa, ← e]; exact hown p h1)
      · exact hoff p h1 a ha e
    have N₂ : News h₀ env.locals h (C₁ ++ (own ++ rest)) := fun p hp => N₁ p (by
      simp only [List.mem_append] at hp ⊢
      rcases hp with h1 | h1 | h1
      · exact .inr (.inl h1)
      · exact .inl h1
      · exact .inr (.inr h1))
    refine wpAny_mono (turn i v m₁ C₁ (own ++ rest) h tk hin hP hJ hadr (fun p hp => List.mem_append_right _ hp) hsep F₁ N₂) (fun _ s₃ q => wpAny_mono q (fun f s₂ p => ?_) fun _ _ e => e) fun _ _ e => e
    have fin : TEnd h₀ env.locals (own ++ rest) (C.map (·.1)) (J (i + 1)) { s with heap := h, toks := tk } s₂ → LoopStepU h₀ env.locals wr own (fun m₁ news₁ => ∃ C₁, news₁ = C₁ ++ rest ∧ C₁.map (·.1) = C.map (·.1) ∧ J (i + 1) m₁ C₁) { s with heap := h, toks := tk } .next s₂ := by
      rintro ⟨h', tk', m', C', e, F', N', ha, hj⟩
      refine ⟨rfl, h', tk', m', C' ++ rest, e, F', fun p hp => N' p ?_, ?_, C', rfl, ha, hj⟩
      · simp only [List.mem_append] at hp ⊢
        rcases hp with h1 | h1 | h1
        · exact .inr (.inl h1)
        · exact .inl h1
        · exact .inr (.inr h1)
      · intro p hp hI
        rcases List.mem_append.mp hp with h1 | h1
        · have h2 : p.1 ∈ C.map (·.1) := by rw [← ha]; exact List.mem_map.mpr ⟨p, h1, rfl⟩
          obtain ⟨q, hq, hqa⟩ := List.mem_map.mp h2
          exact hfp q hq (by rw [hqa]; exact W.sub _ hI)
        · exact hnw p (List.mem_append_right _ h1) hI
    cases f with
    | ret v => exact .ret p
    | brk => exact .brk p
    | next => exact .next (fin p)
    | cont => exact .cont (fin p)
  · rintro h' tk m' news' F' N' _ ⟨C₁, rfl, hadr, hJ⟩
    exact done m' C₁ h' tk hJ hadr F' N'

/-- a range object, walked: any step, its size known -/
theorem iter_range {r : Addr} {a b c : Int} {t u v : Tok} {n : Nat} {m : Loc} {C rest : Led} (J : Nat → Loc → Led → Prop)
    (hr : IsRange s.heap r a b c t u v) (hsmall : Builtin.Range.small a b c = true) (hn : Builtin.Range.rangeSize a b c = (n : Int))
    (F : Fr h₀ env.locals s.heap m) (N : News h₀ env.locals s.heap (C ++ rest)) (hoff : ∀ p ∈ rest, ∀ a ∈ C.map (·.1), p.1 ≠ a) (h0 : J 0 m C)
    (turn : ∀ (i : Nat) t m₁ C₁ rest' h tk, i < n → J i m₁ C₁ → C₁.map (·.1) = C.map (·.1) → (∀ p ∈ rest, p ∈ rest') → (∀ p ∈ rest', ∀ a ∈ C.map (·.1), p.1 ≠ a) → Fr h₀ env.locals h (fun y => if y = x then some (.int (a + i * c) t) else m₁ y) → News h₀ env.locals h (C₁ ++ rest') →
      wpAny (model prog w) A (execs body env) (TPost h₀ env.locals rest' (C.map (·.1)) (J (i + 1)) { s with heap := h, toks := tk } Q) E { s with heap := h, toks := tk })
    (done : ∀ m₁ C₁ h tk, J n m₁ C₁ → C₁.map (·.1) = C.map (·.1) → Fr h₀ env.locals h m₁ → News h₀ env.locals h (C₁ ++ rest) → Q .next { s with heap := h, toks := tk })
    (hh : A.handled = none) :
    wpAny (model prog w) A (pyIter (.ref r)) (fun it s₂ => LoopAtV prog w A h₀ env x body Q E it s₂) E s := by
  refine wpAny_pyIter_range hr hsmall ?_
  refine for_name (s := { s with heap := s.heap.push _ }) J ((Walks.range hh s.heap.objs.size a c n).bound) ?_ ?_ ?_ ?_ (by show IsRangeIter _ _ _ _ _; rw [hn]; simpa using Heap.get?_push_size _ rfl) (F.push _) (fun p hp => ⟨Heap.get?_push_of_some _ (N p hp).1, (N p hp).2⟩) hoff h0 ?_ ?_
  · intro hm
    exact absurd F.ns.lt ((List.mem_singleton.mp hm) ▸ Nat.lt_irrefl _)
  · intro b hb
    rw [List.mem_singleton.mp hb]
    exact next_is_new F
  · intro p hp hI
    exact absurd (Heap.lt_size (N p hp).1) ((List.mem_singleton.mp hI) ▸ Nat.lt_irrefl _)
  · intro p hp hI
    exact absurd (Heap.lt_size (N p (List.mem_append_left _ hp)).1) ((List.mem_singleton.mp hI) ▸ Nat.lt_irrefl _)
  · rintro i v m₁ C₁ rest' h tk hin ⟨_, t, rfl⟩ hJ hadr hsub hsep F₁ N₁
    exact turn i t m₁ C₁ rest' h tk hin hJ hadr hsub hsep F₁ N₁
  · exact done

theorem rangeSize_down (a : Int) : Builtin.Range.rangeSize a (-1) (-1) = if -1 < a then a + 1 else 0 := by
  unfold Builtin.Range.rangeSize
  simp only [show ¬ ((-1 : Int) > 0) by decide, if_false, Int.neg_neg, Int.ediv_one, gt_iff_lt]
  split <;> omega
theorem small_down {a : Int} (ha : -(2 ^ 62) ≤ a) (ha' : a < 2 ^ 62) : Builtin.Range.small a (-1) (-1) = true := by
  unfold Builtin.Range.small
  rw [rangeSize_down]
  simp only [Builtin.Range.rangeFitsLong, Bool.and_eq_true, Bool.or_eq_true, decide_eq_true_eq, beq_iff_eq, show ¬ ((-1 : Int) > 0) by decide, if_false]
  split <;> omega

theorem iter_range_one {r : Addr} {a b : Int} {t u v : Tok} (n : Nat) {m : Loc} {C rest : Led} (J : Nat → Loc → Led → Prop)
    (hr : IsRange s.heap r a b 1 t u v) (ha : a < 2 ^ 62) (ha0 : -(2 ^ 62) ≤ a) (hb : b < 2 ^ 62) (hb0 : -(2 ^ 62) ≤ b) (hn : n = (b - a).toNat)
    (F : Fr h₀ env.locals s.heap m) (N : News h₀ env.locals s.heap (C ++ rest)) (hoff : ∀ p ∈ rest, ∀ a ∈ C.map (·.1), p.1 ≠ a) (h0 : J 0 m C)
    (turn : ∀ (i : Nat) t m₁ C₁ rest' h tk, i < n → J i m₁ C₁ → C₁.map (·.1) = C.map (·.1) → (∀ p ∈ rest, p ∈ rest') → (∀ p ∈ rest', ∀ a ∈ C.map (·.1), p.1 ≠ a) → Fr h₀ env.locals h (fun y => if y = x then some (.int (a + i) t) else m₁ y) → News h₀ env.locals h (C₁ ++ rest') →
      wpAny (model prog w) A (execs body env) (TPost h₀ env.locals rest' (C.map (·.1)) (J (i + 1)) { s with heap := h, toks := tk } Q) E { s with heap := h, toks := tk })
    (done : ∀ m₁ C₁ h tk, J n m₁ C₁ → C₁.map (·.1) = C.map (·.1) → Fr h₀ env.locals h m₁ → News h₀ env.locals h (C₁ ++ rest) → Q .next { s with heap := h, toks := tk })
    (hh : A.handled = none) :
    wpAny (model prog w) A (pyIter (.ref r)) (fun it s₂ => LoopAtV prog w A h₀ env x body Q E it s₂) E s := by
  subst hn
  refine iter_range J hr (small_one ha0 ha hb0 hb) (by rw [rangeSize_one]; split <;> omega) F N hoff h0 ?_ done hh
  intro i t m₁ C₁ rest' h tk hin hJ hadr hsub hsep F₁ N₁
  exact turn i t m₁ C₁ rest' h tk hin hJ hadr hsub hsep (by rw [Int.mul_one] at F₁; exact F₁) N₁

theorem iter_range_down {r : Addr} {a : Int} {t u v : Tok} (n : Nat) {m : Loc} {C rest : Led} (J : Nat → Loc → Led → Prop)
    (hr : IsRange s.heap r a (-1) (-1) t u v) (ha : a < 2 ^ 62) (ha0 : -1 ≤ a) (hn : n = (a + 1).toNat)
    (F : Fr h₀ env.locals s.heap m) (N : News h₀ env.locals s.heap (C ++ rest)) (hoff : ∀ p ∈ rest, ∀ a ∈ C.map (·.1), p.1 ≠ a) (h0 : J 0 m C)
    (turn : ∀ (i : Nat) t m₁ C₁ rest' h tk, i < n → J i m₁ C₁ → C₁.map (·.1) = C.map (·.1) → (∀ p ∈ rest, p ∈ rest') → (∀ p ∈ rest', ∀ a ∈ C.map (·.1), p.1 ≠ a) → Fr h₀ env.locals h (fun y => if y = x then some (.int (a - i) t) else m₁ y) → News h₀ env.locals h (C₁ ++ rest') →
      wpAny (model prog w) A (execs body env) (TPost h₀ env.locals rest' (C.map (·.1)) (J (i + 1)) { s with heap := h, toks := tk } Q) E { s with heap := h, toks := tk })
    (done : ∀ m₁ C₁ h tk, J n m₁ C₁ → C₁.map (·.1) = C.map (·.1) → Fr h₀ env.locals h m₁ → News h₀ env.locals h (C₁ ++ rest) → Q .next { s with heap := h, toks := tk })
    (hh : A.handled = none) :
    wpAny (model prog w) A (pyIter (.ref r)) (fun it s₂ => LoopAtV prog w A h₀ env x body Q E it s₂) E s := by
  subst hn
  refine iter_range J hr (small_down (by omega) ha) (by rw [rangeSize_down]; split <;> omega) F N hoff h0 ?_ done hh
  intro i t m₁ C₁ rest' h tk hin hJ hadr hsub hsep F₁ N₁
  exact turn i t m₁ C₁ rest' h tk hin hJ hadr hsub hsep (by rw [show a + (i : Int) * -1 = a - i by omega] at F₁; exact F₁) N₁

theorem call_range1 {b : Int} {u : Tok} {n : Nat} {m : Loc} {C rest : Led} (J : Nat → Loc → Led → Prop) (hb : b < 2 ^ 62) (hb0 : -(2 ^ 62) ≤ b) (hn : n = b.toNat)
    (F : Fr h₀ env.locals s.heap m) (N : News h₀ env.locals s.heap (C ++ rest)) (hoff : ∀ p ∈ rest, ∀ a ∈ C.map (·.1), p.1 ≠ a) (h0 : J 0 m C)
    (turn : ∀ (i : Nat) t m₁ C₁ rest' h tk, i < n → J i m₁ C₁ → C₁.map (·.1) = C.map (·.1) → (∀ p ∈ rest, p ∈ rest') → (∀ p ∈ rest', ∀ a ∈ C.map (·.1), p.1 ≠ a) → Fr h₀ env.locals h (fun y => if y = x then some (.int (i : Int) t) else m₁ y) → News h₀ env.locals h (C₁ ++ rest') →
      wpAny (model prog w) A (execs body env) (TPost h₀ env.locals rest' (C.map (·.1)) (J (i + 1)) { s with heap := h, toks := tk } Q) E { s with heap := h, toks := tk })
    (done : ∀ m₁ C₁ h tk, J n m₁ C₁ → C₁.map (·.1) = C.map (·.1) → Fr h₀ env.locals h m₁ → News h₀ env.locals h (C₁ ++ rest) → Q .next { s with heap := h, toks := tk })
    (hh : A.handled = none) :
    wpAny (model prog w) A (call (.type "range") [.int b u]) (fun xv s₁ => wpAny (model prog w) A (pyIter xv) (fun it s₂ => LoopAtV prog w A h₀ env x body Q E it s₂) E s₁) E s := by
  subst hn
  refine call_range_1 ?_
  refine iter_range (s := { s with heap := s.heap.push _, toks := s.toks + 1 + 1 }) J (IsRange.new ..) (small_one (by decide) (by decide) hb0 hb) (by rw [rangeSize_one]; split <;> omega) (F.push _) (fun p hp => ⟨Heap.get?_push_of_some _ (N p hp).1, (N p hp).2⟩) hoff h0 ?_ done hh
  intro i t m₁ C₁ rest' h tk hin hJ hadr hsub hsep F₁ N₁
  exact turn i t m₁ C₁ rest' h tk hin hJ hadr hsub hsep (by rw [Int.zero_add, Int.mul_one] at F₁; exact F₁) N₁

theorem call_range2 {a b : Int} {t u : Tok} {n : Nat} {m : Loc} {C rest : Led} (J : Nat → Loc → Led → Prop) (ha : a < 2 ^ 62) (ha0 : -(2 ^ 62) ≤ a) (hb : b < 2 ^ 62) (hb0 : -(2 ^ 62) ≤ b) (hn : n = (b - a).toNat)
    (F : Fr h₀ env.locals s.heap m) (N : News h₀ env.locals s.heap (C ++ rest)) (hoff : ∀ p ∈ rest, ∀ a ∈ C.map (·.1), p.1 ≠ a) (h0 : J 0 m C)
    (turn : ∀ (i : Nat) t m₁ C₁ rest' h tk, i < n → J i m₁ C₁ → C₁.map (·.1) = C.map (·.1) → (∀ p ∈ rest, p ∈ rest') → (∀ p ∈ rest', ∀ a ∈ C.map (·.1), p.1 ≠ a) → Fr h₀ env.locals h (fun y => if y = x then some (.int (a + i) t) else m₁ y) → News h₀ env.locals h (C₁ ++ rest') →
      wpAny (model prog w) A (execs body env) (TPost h₀ env.locals rest' (C.map (·.1)) (J (i + 1)) { s with heap := h, toks := tk } Q) E { s with heap := h, toks := tk })
    (done : ∀ m₁ C₁ h tk, J n m₁ C₁ → C₁.map (·.1) = C.map (·.1) → Fr h₀ env.locals h m₁ → News h₀ env.locals h (C₁ ++ rest) → Q .next { s with heap := h, toks := tk })
    (hh : A.handled = none) :
    wpAny (model prog w) A (call (.type "range") [.int a t, .int b u]) (fun xv s₁ => wpAny (model prog w) A (pyIter xv) (fun it s₂ => LoopAtV prog w A h₀ env x body Q E it s₂) E s₁) E s := by
  subst hn
  refine call_range_2 ?_
  refine iter_range (s := { s with heap := s.heap.push _, toks := s.toks + 1 }) J (IsRange.new ..) (small_one ha0 ha hb0 hb) (by rw [rangeSize_one]; split <;> omega) (F.push _) (fun p hp => ⟨Heap.get?_push_of_some _ (N p hp).1, (N p hp).2⟩) hoff h0 ?_ done hh
  intro i t m₁ C₁ rest' h tk hin hJ hadr hsub hsep F₁ N₁
  exact turn i t m₁ C₁ rest' h tk hin hJ hadr hsub hsep (by rw [Int.mul_one] at F₁; exact F₁) N₁

theorem call_range3 {a : Int} {t u v : Tok} {n : Nat} {m : Loc} {C rest : Led} (J : Nat → Loc → Led → Prop) (ha : a < 1000) (ha0 : -1 ≤ a) (hn : n = (a + 1).toNat)
    (F : Fr h₀ env.locals s.heap m) (N : News h₀ env.locals s.heap (C ++ rest)) (hoff : ∀ p ∈ rest, ∀ a ∈ C.map (·.1), p.1 ≠ a) (h0 : J 0 m C)
    (turn : ∀ (i : Nat) t m₁ C₁ rest' h tk, i < n → J i m₁ C₁ → C₁.map (·.1) = C.map (·.1) → (∀ p ∈ rest, p ∈ rest') → (∀ p ∈ rest', ∀ a ∈ C.map (·.1), p.1 ≠ a) → Fr h₀ env.locals h (fun y => if y = x then some (.int (a - i) t) else m₁ y) → News h₀ env.locals h (C₁ ++ rest') →
      wpAny (model prog w) A (execs body env) (TPost h₀ env.locals rest' (C.map (·.1)) (J (i + 1)) { s with heap := h, toks := tk } Q) E { s with heap := h, toks := tk })
    (done : ∀ m₁ C₁ h tk, J n m₁ C₁ → C₁.map (·.1) = C.map (·.1) → Fr h₀ env.locals h m₁ → News h₀ env.locals h (C₁ ++ rest) → Q .next { s with heap := h, toks := tk })
    (hh : A.handled = none) :
    wpAny (model prog w) A (call (.type "range") [.int a t, .int (-1) u, .int (-1) v]) (fun xv s₁ => wpAny (model prog w) A (pyIter xv) (fun it s₂ => LoopAtV prog w A h₀ env x body Q E it s₂) E s₁) E s := by
  subst hn
  refine call_range_3 (by decide) ?_ (Or.inl (PyProof.noPylong_small (by omega)))
  refine iter_range (s := { s with heap := s.heap.push _, toks := s.toks }) J (IsRange.new ..) (small_down (by omega) (by omega)) (by rw [rangeSize_down]; split <;> omega) (F.push _) (fun p hp => ⟨Heap.get?_push_of_some _ (N p hp).1, (N p hp).2⟩) hoff h0 ?_ done hh
  intro i t m₁ C₁ rest' h tk hin hJ hadr hsub hsep F₁ N₁
  exact turn i t m₁ C₁ rest' h tk hin hJ hadr hsub hsep (by rw [show a + (i : Int) * -1 = a - i by omega] at F₁; exact F₁) N₁

theorem call_enum {elts : List Expr} {k : Nat} {pos : Pos} {l : Addr} {vs : List Value} {ns : List Int} {c : Nat} {m : Loc} {C rest : Led} (J : Nat → Loc → Led → Prop) (hm : (l, listOf vs.toArray c) ∈ rest) (hi : IntsAre vs ns)
    (F : Fr h₀ env.locals s.heap m) (N : News h₀ env.locals s.heap (C ++ rest)) (hoff : ∀ p ∈ rest, ∀ a ∈ C.map (·.1), p.1 ≠ a) (h0 : J 0 m C)
    (turn : ∀ (i : Nat) T t t' m₁ C₁ rest' h tk, i < ns.length → IsTup h T #[.int (i : Int) t, .int (ns.getD i 0) t'] → J i m₁ C₁ → C₁.map (·.1) = C.map (·.1) → (∀ p ∈ rest, p ∈ rest') → (∀ p ∈ rest', ∀ a ∈ C.map (·.1), p.1 ≠ a) → Fr h₀ env.locals h m₁ → News h₀ env.locals h (C₁ ++ rest') →
      wpAny (model prog w) A (assign (.Tuple elts k pos) env (.ref T)) (fun _ s₂ => wpAny (model prog w) A (execs body env) (TPost h₀ env.locals rest' (C.map (·.1)) (J (i + 1)) { s with heap := h, toks := tk } Q) E s₂) E { s with heap := h, toks := tk })
    (done : ∀ m₁ C₁ h tk, J ns.length m₁ C₁ → C₁.map (·.1) = C.map (·.1) → Fr h₀ env.locals h m₁ → News h₀ env.locals h (C₁ ++ rest) → Q .next { s with heap := h, toks := tk })
    (hh : A.handled = none) :
    wpAny (model prog w) A (call (.type "enumerate") [.ref l]) (fun xv s₁ => wpAny (model prog w) A (pyIter xv) (fun it s₂ => TurnsAt prog w A h₀ env (.Tuple elts k pos) body Q E it s₂) E s₁) E s := by
  have hax := N _ (List.mem_append_right _ hm)
  have hl : s.heap.IsList l vs.toArray := ⟨_, hax.1, rfl, c, rfl⟩
  have hlt : l < s.heap.objs.size := Heap.lt_size hax.1
  have hLs : env.locals < s.heap.objs.size := F.ns.lt
  have hlen : vs.length = ns.length := hi.length
  have hoffl : ∀ p ∈ C, p.1 ≠ l := fun p hp e => hoff _ hm p.1 (List.mem_map.mpr ⟨p, hp, rfl⟩) e.symm
  refine call_enumerate_list hl fun h' hE hI hsz hk => ?_
  refine wpAny_pyIter_enum hE ?_
  refine for_any (s := { s with heap := h' }) J (n := vs.toArray.size) (KTurns.ofWalksU (WalksT.enumerate hh (s.heap.objs.size + 1) s.heap.objs.size l (Nat.succ_ne_self _) (ktu_ne 1 hlt) (Nat.ne_of_lt hlt) vs.toArray).toU.bound) ?_ ?_ ?_ ?_ ⟨⟨.none, hE⟩, hI, hl.at fun o e => hk l o e⟩ (F.keeps hk) (N.grown hk) hoff h0 ?_ ?_
  · intro hI'
    have hb' : env.locals = s.heap.objs.size + 1 ∨ env.locals = s.heap.objs.size ∨ env.locals = l := by simpa using hI'
    rcases hb' with e | e | e
    · exact ktu_ne 1 hLs e
    · exact Nat.ne_of_lt hLs e
    · exact hax.2.1 e.symm
  · intro b hb
    have hb' : b = s.heap.objs.size + 1 ∨ b = s.heap.objs.size := by simpa using hb
    rcases hb' with rfl | rfl
    · exact ktu_new F (Nat.le_add_right _ _)
    · exact ktu_new F (Nat.le_refl _)
  · intro p hp hI'
    have hb' : p.1 = s.heap.objs.size + 1 ∨ p.1 = s.heap.objs.size := by simpa using hI'
    have hlp := Heap.lt_size (N p hp).1
    rcases hb' with e | e
    · exact ktu_ne 1 hlp e
    · exact Nat.ne_of_lt hlp e
  · intro p hp hI'
    have hb' : p.1 = s.heap.objs.size + 1 ∨ p.1 = s.heap.objs.size ∨ p.1 = l := by simpa using hI'
    have hlp := Heap.lt_size (N p (List.mem_append_left _ hp)).1
    rcases hb' with e | e | e
    · exact ktu_ne 1 hlp e
    · exact Nat.ne_of_lt hlp e
    · exact hoffl p hp e
  · rintro i v m₁ C₁ rest' h tk hin ⟨T, vals, rfl, ⟨_, t, x, hx, rfl⟩, hT⟩ hJ hadr hsub hsep F₁ N₁
    have hin' : i < ns.length := by simpa [hlen] using hin
    obtain ⟨t', hx'⟩ := hi.get i ns[i] (by simp [hin'])
    have e : x = .int (ns.getD i 0) t' := by
      have h1 : vs[i]? = some x := by simpa using hx
      rw [hx'] at h1
      rw [List.getD_eq_getElem?_getD, List.getElem?_eq_getElem hin']
      exact (Option.some.inj h1).symm
    subst e
    exact turn i T t t' m₁ C₁ rest' h tk hin' hT hJ hadr hsub hsep F₁ N₁
  · intro m₁ C₁ h tk hJ hadr F₁ N₁
    have e : vs.toArray.size = ns.length := by simp [hlen]
    rw [e] at hJ
    exact done m₁ C₁ h tk hJ hadr F₁ N₁
end
end Mine
/-! ## Base -/
namespace Mine
/-- a frame's map, written out -/
def locOf : List (Str × Option Value) → Loc
  | [], _ => none
  | (k, v) :: r, y => if y = k then v else locOf r y
def setL (x : Str) (v : Value) : List (Str × Option Value) → List (Str × Option Value)
  | [] => [(x, some v)]
  | (k, u) :: r => if x = k then (k, some v) :: r else (k, u) :: setL x v r
theorem locOf_set (x : Str) (v : Value) : ∀ l, (fun y => if y = x then some v else locOf l y) = locOf (setL x v l)
  | [] => rfl
  | (k, u) :: r => by
    have ih := locOf_set x v r
    funext y
    have ih' := congrFun ih y
    simp only [setL]
    by_cases h : x = k
    · simp only [if_pos h, locOf]
      by_cases h1 : y = k
      · simp [h1, h]
      · have h2 : ¬ y = x := fun e => h1 (e.trans h)
        simp [h1, h2]
    · simp only [if_neg h, locOf]
      by_cases h1 : y = k
      · have h2 : ¬ y = x := fun e => h (e.symm.trans h1)
        simp only [if_neg h2, if_pos h1]
      · simp only [if_neg h1]
        exact ih'
theorem locOf_upd {x : Str} {v : Value} {m : Loc} {l : List (Str × Option Value)} (h : m = locOf l) : (fun y => if y = x then some v else m y) = locOf (setL x v l) := by
  subst h
  exact locOf_set x v l
theorem loc_entry (zs : List Str) : ∀ (es : List (Str × Value)), (fun y => List.lookup y es) = locOf (es.map (fun p => (p.1, some p.2)) ++ zs.map fun z => (z, none))
  | [] => by
    funext y
    simp only [List.map_nil, List.nil_append]
    induction zs with
    | nil => rfl
    | cons z r ih =>
      show none = if y = z then none else locOf _ y
      rw [← ih]
      split <;> rfl
  | (k, v) :: r => by
    have ih := loc_entry zs r
    funext y
    have ih' := congrFun ih y
    simp only [List.map_cons, List.cons_append, locOf]
    by_cases h : y = k
    · subst h; simp [List.lookup]
    · have h2 : (y == k) = false := by simp [h]
      simp only [if_neg h, List.lookup_cons, h2]
      exact ih'
theorem Fr_cast {g h : Heap} {L : Addr} {m m' : Loc} (F : Fr g L h m) (e : m = m') : Fr g L h m' := e ▸ F
theorem Fr_entry {g h : Heap} {L : Addr} {es : List (Str × Value)} (zs : List Str) (F : Fr g L h (fun y => List.lookup y es)) : Fr g L h (locOf (es.map (fun p => (p.1, some p.2)) ++ zs.map fun z => (z, none))) := by
  rw [← loc_entry]; exact F

theorem of_allLt {d : Addr} (l : Led) : AllLt d l → ∀ p ∈ l, p.1 < d := by
  induction l with
  | nil => exact fun _ p hp => absurd hp (List.not_mem_nil)
  | cons q r ih =>
    intro h p hp
    cases hp with
    | head => exact h.1
    | tail _ hp => exact ih h.2 p hp
theorem off_one {D : Addr} {o : Obj} {l : Led} (h : ∀ p ∈ l, p.1 < D) : ∀ p ∈ l, ∀ a ∈ ([(D, o)] : Led).map (·.1), p.1 ≠ a := by
  intro p hp a ha e
  have h1 := h p hp
  rw [e, List.mem_singleton.mp ha] at h1
  exact Nat.lt_irrefl _ h1
section
variable {prog : Program} {w : World} {A : Around} {E : Value → Shared → Prop} {s : Shared} {h₀ : Heap} {L l : Addr} {news : Led} {vs : List Value} {ns : List Int} {n : Nat}
theorem len_ints {Q : Value → Shared → Prop} (N : News h₀ L s.heap news) (hm : (l, listOf vs.toArray n) ∈ news) (hi : IntsAre vs ns) (hlen : ns.length < 2 ^ 62)
    (h : ∀ tk t, Q (.int (ns.length : Int) t) { s with toks := tk }) : wpAny (model prog w) A (call (.builtin "len") [.ref l]) Q E s := by
  have e : vs.toArray.size = ns.length := by rw [List.size_toArray, hi.length]
  refine len_list (News.isList N hm) (by rw [e]; omega) ?_
  rw [e]
  exact h _ _
theorem ints_snoc {x : Int} {t : Tok} : ∀ {vs : List Value} {ns : List Int}, IntsAre vs ns → IntsAre (vs ++ [.int x t]) (ns ++ [x])
  | _, _, .nil => .cons x t .nil
  | _, _, .cons i u h => .cons i u (ints_snoc h)
/-- a body in two parts -/
theorem execs_split_wp {M : Model} {E : Value → Shared → Prop} {env : Env} {rest : List Stmt} {P : Shared → Prop} {Q : Flow → Shared → Prop} {Γ : PySem.Ctx} (hΓ : Γ.In A) (h2 : ∀ s', P s' → wpAny M A (execs rest env) Q E s') : ∀ (st : List Stmt) (p : Pos) (s : Shared),
    Sem.wp M Γ (execs st env) (fun f _ s' => f = .next ∧ P s') (fun e _ s' => E e s') p s → Sem.wp M Γ (execs (st ++ rest) env) (fun f _ s' => Q f s') (fun e _ s' => E e s') p s
  | [], p, s, h => h2 s h.2 Γ p hΓ
  | a :: r, p, s, h => by
    rw [execs_cons, Sem.wp_bind'] at h
    rw [List.cons_append, execs_cons, Sem.wp_bind']
    refine Sem.wp_mono M Γ _ (fun f p' s' h' => ?_) (fun _ _ _ h' => h') _ _ h
    cases f with
    | next => exact execs_split_wp hΓ h2 r p' s' h'
    | _ => exact absurd h'.1 (by simp)
theorem execs_split {M : Model} {E : Value → Shared → Prop} {env : Env} {rest : List Stmt} {P : Shared → Prop} {Q : Flow → Shared → Prop} {s : Shared} (st : List Stmt)
    (h1 : wpAny M A (execs st env) (fun f s' => f = .next ∧ P s') E s) (h2 : ∀ s', P s' → wpAny M A (execs rest env) Q E s') : wpAny M A (execs (st ++ rest) env) Q E s :=
  fun Γ p hΓ => execs_split_wp hΓ h2 st p s (h1 Γ p hΓ)
end
end Mine
/-! ## Plain -/
namespace Mine
/-- the value of a row of limbs, base B -/
def val (B : Int) : List Int → Int
  | [] => 0
  | x :: r => x + B * val B r
def Limbs (B : Int) (ns : List Int) : Prop := ∀ x ∈ ns, 0 ≤ x ∧ x < B

theorem val_nonneg {B : Int} (hB : 0 ≤ B) : ∀ {ns : List Int}, Limbs B ns → 0 ≤ val B ns
  | [], _ => Int.le_refl _
  | x :: r, h => by
    have h1 := h x (List.mem_cons_self ..)
    have h2 := val_nonneg hB (ns := r) (fun y hy => h y (List.mem_cons_of_mem _ hy))
    have h3 := Int.mul_nonneg hB h2
    simp only [val]
    omega
theorem val_lt {B : Int} (hB : 0 < B) : ∀ {ns : List Int}, Limbs B ns → val B ns < B ^ ns.length
  | [], _ => by simp [val]
  | x :: r, h => by
    have h1 := h x (List.mem_cons_self ..)
    have h2 := val_lt hB (ns := r) (fun y hy => h y (List.mem_cons_of_mem _ hy))
    have h3 : B * (val B r + 1) ≤ B * B ^ r.length := Int.mul_le_mul_of_nonneg_left (by omega) (by omega)
    simp only [val, List.length_cons, Int.pow_succ]
    rw [Int.mul_add, Int.mul_one] at h3
    rw [Int.mul_comm (B ^ r.length) B]
    omega
theorem val_append (B : Int) : ∀ (as bs : List Int), val B (as ++ bs) = val B as + B ^ as.length * val B bs
  | [], bs => by simp [val]
  | x :: r, bs => by
    simp only [List.cons_append, val, val_append B r bs, List.length_cons, Int.pow_succ]
    rw [Int.mul_add, Int.mul_comm (B ^ r.length) B, Int.mul_assoc]
    omega
theorem val_replicate (B : Int) : ∀ n, val B (List.replicate n 0) = 0
  | 0 => rfl
  | n + 1 => by simp only [List.replicate_succ, val, val_replicate B n]; simp
theorem getD_set (ns : List Int) (i j : Nat) (x : Int) : (ns.set i x).getD j 0 = if i = j ∧ i < ns.length then x else ns.getD j 0 := by
  simp only [List.getD_eq_getElem?_getD, List.getElem?_set]
  by_cases h : i = j
  · subst h
    by_cases h2 : i < ns.length
    · simp [h2]
    · simp [h2]
  · simp [h]
theorem val_set (B : Int) : ∀ (ns : List Int) (i : Nat) (x : Int), i < ns.length → val B (ns.set i x) = val B ns + (x - ns.getD i 0) * B ^ i
  | [], _, _, h => absurd h (Nat.not_lt_zero _)
  | y :: r, 0, x, _ => by simp [val]; omega
  | y :: r, i + 1, x, h => by
    have ih := val_set B r i x (Nat.lt_of_succ_lt_succ h)
    simp only [List.set_cons_succ, val, ih, List.getD_cons_succ, Int.pow_succ]
    rw [Int.mul_add, Int.mul_comm (B ^ i) B, Int.mul_left_comm]
    omega
theorem limbs_set {B : Int} {ns : List Int} (h : Limbs B ns) (i : Nat) {x : Int} (hx : 0 ≤ x ∧ x < B) : Limbs B (ns.set i x) := by
  intro y hy
  rcases List.mem_or_eq_of_mem_set hy with h1 | h1
  · exact h y h1
  · exact h1 ▸ hx
theorem limbs_getD {B : Int} (hB : 0 < B) {ns : List Int} (h : Limbs B ns) (i : Nat) : 0 ≤ ns.getD i 0 ∧ ns.getD i 0 < B := by
  rw [List.getD_eq_getElem?_getD]
  cases e : ns[i]? with
  | none => simp; exact hB
  | some y => simpa using h y (List.mem_of_getElem? e)
theorem val_take_succ (B : Int) (ns : List Int) (i : Nat) (h : i < ns.length) : val B (ns.take (i + 1)) = val B (ns.take i) + ns.getD i 0 * B ^ i := by
  have e : ns.take (i + 1) = ns.take i ++ [ns.getD i 0] := by
    rw [List.take_add_one, List.getD_eq_getElem?_getD, List.getElem?_eq_getElem h]; rfl
  rw [e, val_append, List.length_take, Nat.min_eq_left (Nat.le_of_lt h)]
  simp [val, Int.mul_comm]

/-- a normal row: limbs in range, its value, no nought at its end -/
structure IsRow (B : Int) (ns : List Int) (N : Int) : Prop where
  limbs : Limbs B ns
  value : val B ns = N
  top : ∀ h : ns ≠ [], ns.getLast h ≠ 0

theorem row_pos {B : Int} (hB : 0 < B) : ∀ {ns : List Int}, Limbs B ns → (∀ h : ns ≠ [], ns.getLast h ≠ 0) → ns ≠ [] → 0 < val B ns
  | [], _, _, h => absurd rfl h
  | [x], hl, ht, _ => by
    have h1 := hl x (List.mem_cons_self ..)
    have h2 := ht (by simp)
    simp only [List.getLast_singleton] at h2
    simp only [val]
    omega
  | x :: y :: r, hl, ht, _ => by
    have h1 := hl x (List.mem_cons_self ..)
    have h2 := row_pos hB (ns := y :: r) (fun z hz => hl z (List.mem_cons_of_mem _ hz)) (fun h => by have := ht (by simp); rwa [List.getLast_cons h] at this) (by simp)
    have h3 := Int.mul_pos hB h2
    rw [val]
    omega

theorem row_unique {B : Int} (hB : 0 < B) : ∀ {as bs : List Int}, Limbs B as → Limbs B bs → (∀ h : as ≠ [], as.getLast h ≠ 0) → (∀ h : bs ≠ [], bs.getLast h ≠ 0) → val B as = val B bs → as = bs
  | [], [], _, _, _, _, _ => rfl
  | [], y :: s, _, hb, _, tb, e => by
    have := row_pos hB hb tb (by simp)
    rw [← e] at this
    simp [val] at this
  | x :: r, [], ha, _, ta, _, e => by
    have := row_pos hB ha ta (by simp)
    rw [e] at this
    simp [val] at this
  | x :: r, y :: s, ha, hb, ta, tb, e => by
    have h1 := ha x (List.mem_cons_self ..)
    have h2 := hb y (List.mem_cons_self ..)
    simp only [val] at e
    have e1 : x = y := by
      have e2 : (x + B * val B r) % B = (y + B * val B s) % B := by rw [e]
      rw [Int.add_mul_emod_self_left, Int.add_mul_emod_self_left, Int.emod_eq_of_lt h1.1 h1.2, Int.emod_eq_of_lt h2.1 h2.2] at e2
      exact e2
    subst e1
    have e3 : B * val B r = B * val B s := by omega
    have e4 : val B r = val B s := Int.eq_of_mul_eq_mul_left (by omega) e3
    rw [row_unique hB (as := r) (bs := s) (fun z hz => ha z (List.mem_cons_of_mem _ hz)) (fun z hz => hb z (List.mem_cons_of_mem _ hz)) (fun h => by have := ta (by simp); rwa [List.getLast_cons h] at this) (fun h => by have := tb (by simp); rwa [List.getLast_cons h] at this) e4]
theorem IsRow.eq {B N : Int} (hB : 0 < B) {as bs : List Int} (ha : IsRow B as N) (hb : IsRow B bs N) : as = bs := row_unique hB ha.limbs hb.limbs ha.top hb.top (ha.value.trans hb.value.symm)

def trimZ : List Int → Nat → Nat
  | _, 0 => 0
  | ns, k + 1 => if ns.getD k 0 = 0 then trimZ ns k else k + 1
theorem trimZ_le (ns : List Int) : ∀ k, trimZ ns k ≤ k
  | 0 => Nat.le_refl _
  | k + 1 => by
    unfold trimZ
    split
    · exact Nat.le_succ_of_le (trimZ_le ns k)
    · exact Nat.le_refl _
theorem trimZ_val (B : Int) (ns : List Int) : ∀ k, k ≤ ns.length → val B (ns.take (trimZ ns k)) = val B (ns.take k)
  | 0, _ => rfl
  | k + 1, h => by
    unfold trimZ
    split
    · rename_i e
      rw [trimZ_val B ns k (by omega), val_take_succ B ns k (by omega), e]
      simp
    · rfl
theorem trimZ_top (ns : List Int) : ∀ k, k ≤ ns.length → ∀ h : ns.take (trimZ ns k) ≠ [], (ns.take (trimZ ns k)).getLast h ≠ 0
  | 0, _ => by intro h; exact absurd rfl h
  | k + 1, hk => by
    unfold trimZ
    split
    · exact trimZ_top ns k (by omega)
    · rename_i e
      intro h
      have e2 : ns.take (k + 1) = ns.take k ++ [ns.getD k 0] := by
        rw [List.take_add_one, List.getD_eq_getElem?_getD, List.getElem?_eq_getElem (show k < ns.length by omega)]; rfl
      simp only [e2, List.getLast_concat]
      exact e
theorem trim_row {B : Int} {ns : List Int} (h : Limbs B ns) : IsRow B (ns.take (trimZ ns ns.length)) (val B ns) where
  limbs := fun x hx => h x (List.mem_of_mem_take hx)
  value := by rw [trimZ_val B ns _ (Nat.le_refl _), List.take_length]
  top := trimZ_top ns _ (Nat.le_refl _)
end Mine
/-! ## Normal -/
namespace Mine
theorem anew_Normal : True := by
  w_top off
  exact trivial
local macro_rules | `(tactic| walk_at "call builtin:len") => `(tactic| (k_here; (with_reducible show wpAny _ _ (call (Value.builtin "len") [Value.ref _]) _ _ _); k_dflt (refine' len_ints ?k1 ?k2 ?k3 ?k4 ?_; (case k1 => k_asm); (case k2 => k_mem); (case k3 => k_asm); (case k4 => omega); k_whole); intro _ _))

local macro_rules | `(tactic| walk_at "loc") => `(tactic| first | exact rfl | exact (locOf_upd rfl).trans rfl | exact (locOf_upd (locOf_upd rfl)).trans rfl | exact (locOf_upd (locOf_upd (locOf_upd rfl))).trans rfl | exact (locOf_upd (locOf_upd (locOf_upd (locOf_upd rfl)))).trans rfl | exact (locOf_upd (locOf_upd (locOf_upd (locOf_upd (locOf_upd rfl))))).trans rfl | exact (locOf_upd (locOf_upd (locOf_upd (locOf_upd (locOf_upd (locOf_upd rfl)))))).trans rfl)

set_option maxRecDepth 100000 in
set_option maxHeartbeats 8000000 in
theorem normal_ok (w : World) {p : Program} {loose : List Str} {mean : ExcName → Option Value} {mg mb : Str → Option Value} {dp un : Nat} {gd : Option (List Code)} {cn : Str} {cs : Scope} {a : Addr} {ccd : Value} {cl : List (Str × Addr)} {outer : List Env} {A₀ : Around} {base h₀ : Heap} {L : Addr} {m : Str → Option Value} {news : List (Addr × Obj)} {s : Shared} {Q E : Value → Shared → Prop}
  (B : Below A₀ base outer h₀) (F : Fr h₀ L s.heap m) (X : (Mine.hd.heap_39 w.params).In h₀) (N : News h₀ L s.heap news) (T : Top p loose mean mg mb h₀) (hk : cs.kind = .function) (hd : dp + 1 < recursionLimit) (hu : un + 8 < cLine)
  {l : Addr} {vs : List Value} {ns : List Int} {n : Nat} (hm : (l, listOf vs.toArray n) ∈ news) (hi : IntsAre vs ns) (hlen : ns.length ≤ 1000)
  (ret : ∀ r vs' h' tk', Fr h₀ L h' m → News h₀ L h' ((r, listOf vs'.toArray 0) :: news) → (∀ p ∈ news, p.1 < r) → IntsAre vs' (ns.take (trimZ ns ns.length)) → Q (.ref r) { s with heap := h', toks := tk' }) :
  wpAny (model PySem.Challenge.rw_nn0001_01.prog w) (ktrTop dp un gd cn cs L a ccd cl outer) (call (.ref 46) [.ref l]) Q E s := by
  refine wpAny_call ?_
  k_dflt (refine' code_def ?k1 ?k2 ?k3 ?k4 ?k5 ?kA ?kF ?kK ?k6 ?k7 ?k8 ?k9 ?kB ?_ ?c2 ?c3 ?c4 ?c5; (case kA => exact rfl); (case kF => exact rfl); (case kK => assumption); (case k1 => k_asm); (case k2 => k_asm); (case k3 => k_asm); (case k4 => k_asm); (case k5 => k_asm); (case k6 => k_is); (case k7 => k_is); (case k8 => ktr_room); (case k9 => exact BindsTo.of_eq (binds := [(Str.ofString "a", .ref l)]) rfl); (case c5 => decide); (case kB => exact locs rfl); (case c2 => exact rfl); (case c3 => exact rfl); (case c4 => exact rfl); k_whole)
  intro g' L' h' FG' F' N' B' X' T'
  refine wpAny_mono (E := fun _ _ => False) ?_ (fun _ _ x => x) (fun _ _ x => x.elim)
  replace F' : Fr g' L' h' (locOf [(Str.ofString "a", some (.ref l)), (Str.ofString "end", none)]) := Fr_entry [Str.ofString "end"] F'
  clear F N B X T
  generalize hS : (Stmt.While _ _ _ _) = S
  k_steps
  subst hS
  rename_i tk0 t0 h1 F1 N1
  refine While_inv2 (fun k m₁ C => C = news ∧ k ≤ ns.length ∧ trimZ ns ns.length = trimZ ns k ∧ ∃ t, m₁ = locOf [(Str.ofString "a", some (.ref l)), (Str.ofString "end", some (.int (k : Int) t))]) F1 N1 ⟨rfl, Nat.le_refl _, rfl, t0, by walk_at "loc"⟩ ?_ PassesOwn.never
  · rintro k m₁ C h2 tk2 F2 N2 ⟨rfl, hk1, hk2, t, rfl⟩
    k_steps
    · rename_i hc1 tk3 hc2 h3 F3 N3
      exact ⟨_, _, _, _, k - 1, rfl, F3, N3, by omega, rfl, by omega, by obtain ⟨j, rfl⟩ : ∃ j, k = j + 1 := ⟨k - 1, by omega⟩
                                                                         rw [hk2, trimZ, if_pos (by simpa using hc2)]; rfl, _, by
        have e : ((k - 1 : Nat) : Int) = (k : Int) - 1 := by omega
        rw [e]; walk_at "loc"⟩
    · rename_i hc1 tk3 hc2 D ws h3 F3 N3 l1 hI _ _
      dsimp only
      refine leaveK_ F3 N3 fun kF kN => ?_
      refine ret _ _ _ _ kF kN l1 ?_
      obtain ⟨j, rfl⟩ : ∃ j, k = j + 1 := ⟨k - 1, by omega⟩
      rw [hk2, trimZ, if_neg (by simpa using hc2)]
      exact hI
    · rename_i hc1 D ws h3 F3 N3 l1 hI _ _
      dsimp only
      refine leaveK_ F3 N3 fun kF kN => ?_
      refine ret _ _ _ _ kF kN l1 ?_
      obtain rfl : k = 0 := by omega
      rw [hk2, trimZ]
      exact hI
end Mine
/-! ## Mul -/
namespace Mine
theorem anew_Mul : True := by
  w_top off
  exact trivial
local macro_rules | `(tactic| k_mem) => `(tactic| first | (with_reducible assumption) | (refine List.mem_cons_of_mem _ ?_; k_mem))
local macro_rules | `(tactic| walk_at "call builtin:len") => `(tactic| (k_here; (with_reducible show wpAny _ _ (call (Value.builtin "len") [Value.ref _]) _ _ _); k_dflt (refine' len_ints ?k1 ?k2 ?k3 ?k4 ?_; (case k1 => k_asm); (case k2 => k_mem); (case k3 => k_asm); (case k4 => omega); k_whole); intro _ _))
local macro_rules | `(tactic| k_all) => `(tactic| assumption)
local macro_rules | `(tactic| walk_at "loc") => `(tactic| first | exact rfl | exact (locOf_upd rfl).trans rfl | exact (locOf_upd (locOf_upd rfl)).trans rfl | exact (locOf_upd (locOf_upd (locOf_upd rfl))).trans rfl | exact (locOf_upd (locOf_upd (locOf_upd (locOf_upd rfl)))).trans rfl | exact (locOf_upd (locOf_upd (locOf_upd (locOf_upd (locOf_upd rfl))))).trans rfl | exact (locOf_upd (locOf_upd (locOf_upd (locOf_upd (locOf_upd (locOf_upd rfl)))))).trans rfl)
local macro_rules | `(tactic| walk_at "call ref") => `(tactic| (k_here; (with_reducible show wpAny _ _ (call (Value.ref 46) [Value.ref _]) _ _ _); k_dflt (refine' normal_ok _ ?B ?F ?X ?N ?T ?hk ?hd ?hu ?hm ?hi ?hl ?_; (case B => k_asm); (case F => k_asm); (case X => k_asm); (case N => k_asm); (case T => k_asm); (case hk => first | exact rfl | assumption); (case hm => k_mem); (case hi => k_asm); (case hd => ktr_room); (case hu => ktr_units); (case hl => omega); k_whole)))

def lMul (la lb D : Addr) (wv : Int) (tw : Tok) (M : Int) (tm : Tok) (at_ limb carry spot other : Option Value) : List (Str × Option Value) :=
  [(Str.ofString "w", some (.int wv tw)), (Str.ofString "b", some (.ref lb)), (Str.ofString "a", some (.ref la)), (Str.ofString "found", some (.ref D)), (Str.ofString "mask", some (.int M tm)), (Str.ofString "at", at_), (Str.ofString "limb", limb), (Str.ofString "carry", carry), (Str.ofString "spot", spot), (Str.ofString "other", other)]
structure OuterP (B : Int) (as bs : List Int) (i : Nat) (fs : List Int) : Prop where
  len : fs.length = as.length + bs.length
  limbs : Limbs B fs
  value : val B fs = val B (as.take i) * val B bs
  rest : ∀ k, i + bs.length ≤ k → fs.getD k 0 = 0
structure InnerP (B : Int) (as bs : List Int) (i : Nat) (limb V : Int) (j : Nat) (c : Int) (fs : List Int) : Prop where
  len : fs.length = as.length + bs.length
  limbs : Limbs B fs
  c0 : 0 ≤ c
  c1 : c < B
  value : val B fs + c * B ^ (i + j) = V + limb * B ^ i * val B (bs.take j)
  rest : ∀ k, i + bs.length ≤ k → fs.getD k 0 = 0

theorem inner_start {B : Int} (hB : 2 ≤ B) {as bs : List Int} {i : Nat} {fs : List Int} {limb : Int} (h : OuterP B as bs i fs) : InnerP B as bs i limb (val B fs) 0 0 fs where
  len := h.len
  limbs := h.limbs
  c0 := Int.le_refl _
  c1 := by omega
  value := by simp [val]
  rest := h.rest
theorem inner_step {B : Int} (hB : 2 ≤ B) {as bs : List Int} {i j : Nat} {limb V c : Int} {fs : List Int} (h : InnerP B as bs i limb V j c fs) (hi : i < as.length) (hj : j < bs.length) (hx : 0 ≤ limb ∧ limb < B) (hlb : Limbs B bs) :
    InnerP B as bs i limb V (j + 1) ((c + (fs.getD (i + j) 0 + limb * bs.getD j 0)) / B) (fs.set (i + j) ((c + (fs.getD (i + j) 0 + limb * bs.getD j 0)) % B)) := by
  have hy := limbs_getD (by omega) hlb j
  have hf := limbs_getD (by omega) h.limbs (i + j)
  have hm0 : 0 ≤ limb * bs.getD j 0 := Int.mul_nonneg hx.1 hy.1
  have hm1 : limb * bs.getD j 0 ≤ (B - 1) * (B - 1) := Int.mul_le_mul (by omega) (by omega) hy.1 (by omega)
  have hm2 : (B - 1) * (B - 1) = B * B - 2 * B + 1 := by rw [Int.sub_mul, Int.mul_sub]; omega
  have hc0 := h.c0
  have hc1 := h.c1
  generalize hX : c + (fs.getD (i + j) 0 + limb * bs.getD j 0) = X
  have hX0 : 0 ≤ X := by omega
  have hX1 : X < B * B := by omega
  have hd := Int.mul_ediv_add_emod X B
  refine ⟨by rw [List.length_set]; exact h.len, limbs_set h.limbs _ ⟨Int.emod_nonneg _ (by omega), Int.emod_lt_of_pos _ (by omega)⟩, Int.ediv_nonneg hX0 (by omega), Int.ediv_lt_of_lt_mul (by omega) hX1, ?_, ?_⟩
  · rw [val_set B fs _ _ (by have := h.len; omega), val_take_succ B bs j hj, Int.mul_add, ← Int.add_assoc, ← h.value, show i + (j + 1) = (i + j) + 1 by omega, Int.pow_succ, Int.mul_comm (B ^ (i + j)) B, ← Int.mul_assoc]
    have e1 : limb * B ^ i * (bs.getD j 0 * B ^ j) = limb * bs.getD j 0 * B ^ (i + j) := by
      rw [Int.pow_add]
      simp only [Int.mul_comm, Int.mul_left_comm, Int.mul_assoc]
    have e2 : X % B = X - X / B * B := by rw [Int.mul_comm (X / B) B]; omega
    rw [e1, e2, Int.sub_mul, Int.sub_mul, ← hX, Int.add_mul, Int.add_mul]
    omega
  · intro k hk
    rw [getD_set, if_neg (by omega)]
    exact h.rest k hk
theorem outer_step {B : Int} (hB : 2 ≤ B) {as bs : List Int} {i : Nat} {fs0 fs : List Int} {c : Int} (h0 : OuterP B as bs i fs0) (h : InnerP B as bs i (as.getD i 0) (val B fs0) bs.length c fs) (hi : i < as.length) :
    OuterP B as bs (i + 1) (fs.set (i + bs.length) c) := by
  have hl := h.len
  refine ⟨by rw [List.length_set]; exact h.len, limbs_set h.limbs _ ⟨h.c0, h.c1⟩, ?_, ?_⟩
  · rw [val_set B fs _ _ (by omega), h.rest _ (Nat.le_refl _), Int.sub_zero, h.value, List.take_length, h0.value, val_take_succ B as i hi, Int.add_mul]
  · intro k hk
    rw [getD_set, if_neg (by omega)]
    exact h.rest k (by omega)
theorem outer_start (B : Int) (as bs : List Int) (hB : 2 ≤ B) {n : Nat} (hn : n = as.length + bs.length) : OuterP B as bs 0 (List.replicate n 0) where
  len := by simp [hn]
  limbs := by
    intro x hx
    rw [(List.mem_replicate.mp hx).2]
    omega
  value := by rw [val_replicate]; simp [val]
  rest := by
    intro k _
    simp [List.getD_eq_getElem?_getD, List.getElem?_replicate]
    split <;> rfl
theorem flat_rep (n : Nat) : (List.replicate n [(0 : Int)]).flatten = List.replicate n 0 := by
  induction n with
  | zero => rfl
  | succ k ih => simp only [List.replicate_succ, List.flatten_cons, ih]; rfl
set_option maxRecDepth 100000 in
set_option maxHeartbeats 8000000 in
theorem mul_ok (w : World) {p : Program} {loose : List Str} {mean : ExcName → Option Value} {mg mb : Str → Option Value} {dp un : Nat} {gd : Option (List Code)} {cn : Str} {cs : Scope} {a : Addr} {ccd : Value} {cl : List (Str × Addr)} {outer : List Env} {A₀ : Around} {base h₀ : Heap} {L : Addr} {m : Str → Option Value} {news : List (Addr × Obj)} {s : Shared} {Q E : Value → Shared → Prop}
  (B : Below A₀ base outer h₀) (F : Fr h₀ L s.heap m) (X : (Mine.hd.heap_39 w.params).In h₀) (N : News h₀ L s.heap news) (T : Top p loose mean mg mb h₀) (hk : cs.kind = .function) (hd : dp + 2 < recursionLimit) (hu : un + 40 < cLine)
  {la lb : Addr} {va vb : List Value} {as bs : List Int} {na nb : Nat} {wv : Int} {tw : Tok} (hma : (la, listOf va.toArray na) ∈ news) (hia : IntsAre va as) (hmb : (lb, listOf vb.toArray nb) ∈ news) (hib : IntsAre vb bs) (hlen : as.length + bs.length ≤ 1000) (hw0 : 0 ≤ wv) (hw : wv ≤ 9)
  {Bz : Int} (hBz : (2 : Int) ^ wv.toNat = Bz) (hB2 : 2 ≤ Bz) (hB9 : Bz ≤ 512) (hla : Limbs Bz as) (hlb : Limbs Bz bs)
  (ret : ∀ r (vs' : List Value) rs h' tk', Fr h₀ L h' m → News h₀ L h' ((r, listOf vs'.toArray 0) :: news) → (∀ p ∈ news, p.1 < r) → IntsAre vs' rs → IsRow Bz rs (val Bz as * val Bz bs) → Q (.ref r) { s with heap := h', toks := tk' }) :
  wpAny (model PySem.Challenge.rw_nn0001_01.prog w) (ktrTop dp un gd cn cs L a ccd cl outer) (call (.ref 74) [.ref la, .ref lb, .int wv tw]) Q E s := by
  refine wpAny_call ?_
  k_dflt (refine' code_def ?k1 ?k2 ?k3 ?k4 ?k5 ?kA ?kF ?kK ?k6 ?k7 ?k8 ?k9 ?kB ?_ ?c2 ?c3 ?c4 ?c5; (case kA => exact rfl); (case kF => exact rfl); (case kK => assumption); (case k1 => k_asm); (case k2 => k_asm); (case k3 => k_asm); (case k4 => k_asm); (case k5 => k_asm); (case k6 => k_is); (case k7 => k_is); (case k8 => ktr_room); (case k9 => exact BindsTo.of_eq (binds := [(Str.ofString "a", .ref la), (Str.ofString "b", .ref lb), (Str.ofString "w", .int wv tw)]) rfl); (case c5 => decide); (case kB => exact locs rfl); (case c2 => exact rfl); (case c3 => exact rfl); (case c4 => exact rfl); k_whole)
  intro g' L' h' FG' F' N' B' X' T'
  refine wpAny_mono (E := fun _ _ => False) ?_ (fun _ _ x => x) (fun _ _ x => x.elim)
  replace F' : Fr g' L' h' (locOf [(Str.ofString "w", some (.int wv tw)), (Str.ofString "b", some (.ref lb)), (Str.ofString "a", some (.ref la)), (Str.ofString "found", none), (Str.ofString "mask", none), (Str.ofString "at", none), (Str.ofString "limb", none), (Str.ofString "carry", none), (Str.ofString "spot", none), (Str.ofString "other", none)]) := Fr_entry [Str.ofString "found", Str.ofString "mask", Str.ofString "at", Str.ofString "limb", Str.ofString "carry", Str.ofString "spot", Str.ofString "other"] F'
  clear F N B X T
  generalize hS : (Stmt.For _ _ _ _ _) = S
  k_steps
  subst hS
  rename_i l0 _ _ _ _ _ _ D _ i1 n1 s1 e1 e2 e3 l1 T _ _ _ _ _ F1 N1
  generalize hvf : (List.replicate (↑as.length + ↑bs.length : Int).toNat [Value.int 0 (s.toks + [(Str.ofString "a", Value.ref la), (Str.ofString "b", Value.ref lb), (Str.ofString "w", Value.int wv tw)].length)]).flatten = vf at i1 N1
  have N2 : News g' L' _ ([(D, listOf vf.toArray 0)] ++ news) := fun p hp => N1 p (by
    simp only [List.mem_cons, List.cons_append, List.nil_append] at hp ⊢
    rcases hp with h | h
    · exact .inr (.inl h)
    · exact .inr (.inr (.inr h)))
  clear N1
  have hoff := off_one (o := listOf vf.toArray 0) (of_allLt _ l1.2)
  generalize hM : (1 * 2 ^ wv.toNat - 1 : Int) = M at F1
  have eM : ∀ x : Int, Builtin.bitAnd x M = x % Bz := by
    intro x
    rw [← hM, ← hBz, Int.one_mul]
    exact kbt_mask x _
  have eS : ∀ x : Int, x.fdiv (2 ^ wv.toNat) = x / Bz := by
    intro x
    rw [hBz, Int.fdiv_eq_ediv_of_nonneg _ (by omega)]
  refine For_turns F1 ?_ (hE := PassesOwn.never)
  generalize hP : (fun xv s₁ => wpAny _ _ (pyIter xv) _ _ s₁) = P
  k_steps
  subst hP
  refine call_enum (C := [(D, listOf vf.toArray 0)]) (rest := news) (fun i m₁ C => ∃ fs v2 n2 at_ limb carry spot other tm, C = [(D, listOf (List.toArray v2) n2)] ∧ IntsAre v2 fs ∧ OuterP Bz as bs i fs ∧ m₁ = locOf (lMul la lb D wv tw M tm at_ limb carry spot other)) hma hia F1 N2 hoff ?_ ?_ ?_ rfl
  · refine ⟨_, vf, 0, none, none, none, none, none, _, rfl, i1, ?_, by walk_at "loc"⟩
    rw [flat_rep]
    exact outer_start Bz as bs hB2 (by omega)
  · rintro i T t t' m₁ C₁ rest' h2 tk2 hi hT ⟨fs, v2, n2, at_, limb, carry, spot, other, tm, rfl, hif, hO, rfl⟩ hadr hsub hsep F2 N2
    simp only [List.cons_append, List.nil_append] at N2
    replace F2 : Fr g' L' h2 (locOf (lMul la lb D wv tw M tm at_ limb carry spot other)) := F2
    replace N2 : News g' L' h2 ((D, listOf v2.toArray n2) :: rest') := N2
    replace hsep : ∀ p ∈ rest', ∀ a ∈ ([(D, listOf v2.toArray n2)] : Led).map (·.1), p.1 ≠ a := hsep
    have hmb' := hsub _ hmb
    clear hadr F1
    generalize hS : (Stmt.For _ _ _ _ _) = S
    k_steps
    subst hS
    (rename Fr _ _ _ _ => F3); (rename News _ _ _ _ => N3)
    refine For_turns F3 ?_ (hE := PassesOwn.never)
    generalize hP : (fun xv s₁ => wpAny _ _ (pyIter xv) _ _ s₁) = P
    k_steps
    subst hP
    refine call_enum (C := [(D, listOf v2.toArray n2)]) (rest := rest') (fun j m₁ C => ∃ fs' v3 n3 c tc spot other, C = [(D, listOf (List.toArray v3) n3)] ∧ IntsAre v3 fs' ∧ InnerP Bz as bs i (as.getD i 0) (val Bz fs) j c fs' ∧ m₁ = locOf (lMul la lb D wv tw M tm (some (.int (i : Int) t)) (some (.int (as.getD i 0) t')) (some (.int c tc)) spot other)) hmb' hib F3 N3 hsep ?_ ?_ ?_ rfl
    · exact ⟨fs, v2, n2, 0, _, _, _, rfl, hif, inner_start hB2 hO, by walk_at "loc"⟩
    · rintro j T2 t2 t2' m₂ C₂ rest2 h3 tk3 hj hT2 ⟨fs', v3, n3, c, tc, spot2, other2, rfl, hif', hI, rfl⟩ hadr hsub2 hsep2 F4 N4
      simp only [List.cons_append, List.nil_append] at N4
      replace F4 : Fr g' L' h3 _ := F4
      replace N4 : News g' L' h3 ((D, listOf v3.toArray n3) :: rest2) := N4
      have hsepD : ∀ p ∈ rest2, p.1 ≠ D := fun p hp => hsep2 p hp D (List.mem_singleton.mpr rfl)
      have hl3 := hI.len
      clear hadr F3 N3 hif
      have hx := limbs_getD (by omega) hla i
      have hy := limbs_getD (by omega) hlb j
      k_steps
      (rename Fr _ _ _ _ => F5); (rename News _ _ _ _ => N5); (rename IntsAre _ _ => hi5)
      have e1 : ((i : Int) + (j : Int)).toNat = i + j := by omega
      refine ⟨_, _, _, [(D, _)], rfl, F5, N5, rfl, _, _, _, _, _, _, _, rfl, hi5, ?_, by walk_at "loc"⟩
      rw [e1, eM, eS]
      exact inner_step hB2 hI hi hj hx hlb
    · rintro m₂ C₂ h3 tk3 ⟨fs', v3, n3, c, tc, spot2, other2, rfl, hif', hI, rfl⟩ hadr F4 N4
      simp only [List.cons_append, List.nil_append] at N4
      replace F4 : Fr g' L' h3 _ := F4
      replace N4 : News g' L' h3 ((D, listOf v3.toArray n3) :: rest') := N4
      have hsepD : ∀ p ∈ rest', p.1 ≠ D := fun p hp => hsep p hp D (List.mem_singleton.mpr rfl)
      have hl3 := hI.len
      clear hadr F3 N3 hif
      dsimp only
      k_steps
      (rename Fr _ _ _ _ => F5); (rename News _ _ _ _ => N5); (rename IntsAre _ _ => hi5)
      have e1 : ((i : Int) + (bs.length : Int)).toNat = i + bs.length := by omega
      refine ⟨_, _, _, [(D, _)], rfl, F5, N5, rfl, _, _, _, _, _, _, _, _, _, rfl, hi5, ?_, by walk_at "loc"⟩
      rw [e1]
      exact outer_step hB2 hO hI hi
  · rintro m₁ C₁ h2 tk2 ⟨fs, v2, n2, at_, limb, carry, spot, other, tm, rfl, hif, hO, rfl⟩ hadr F2 N2
    simp only [List.cons_append, List.nil_append] at N2
    replace F2 : Fr g' L' h2 (locOf (lMul la lb D wv tw M tm at_ limb carry spot other)) := F2
    replace N2 : News g' L' h2 ((D, listOf v2.toArray n2) :: news) := N2
    have hl2 := hO.len
    clear hadr F1
    dsimp only
    k_steps
    rename_i r vs' h3 tk3 F3 N3 l3 hi3
    have hrow := trim_row hO.limbs
    rw [hO.value, List.take_length] at hrow
    refine leaveK_ F3 N3 fun kF kN => ret _ _ _ _ _ kF (fun p hp => kN p ?_) (fun p hp => l3 p (List.mem_cons_of_mem _ hp)) hi3 hrow
    rcases List.mem_cons.mp hp with rfl | hp
    · exact List.mem_cons_self ..
    · exact List.mem_cons_of_mem _ (List.mem_cons_of_mem _ hp)
end Mine
/-! ## Sqr -/
namespace Mine
theorem anew_Sqr : True := by
  w_top off
  exact trivial
local macro_rules | `(tactic| k_mem) => `(tactic| first | (with_reducible assumption) | (refine List.mem_cons_of_mem _ ?_; k_mem))
local macro_rules | `(tactic| walk_at "call builtin:len") => `(tactic| (k_here; (with_reducible show wpAny _ _ (call (Value.builtin "len") [Value.ref _]) _ _ _); k_dflt (refine' len_ints ?k1 ?k2 ?k3 ?k4 ?_; (case k1 => k_asm); (case k2 => k_mem); (case k3 => k_asm); (case k4 => omega); k_whole); intro _ _))
local macro_rules | `(tactic| k_all) => `(tactic| assumption)
local macro_rules | `(tactic| walk_at "loc") => `(tactic| first | exact rfl | exact (locOf_upd rfl).trans rfl | exact (locOf_upd (locOf_upd rfl)).trans rfl | exact (locOf_upd (locOf_upd (locOf_upd rfl))).trans rfl | exact (locOf_upd (locOf_upd (locOf_upd (locOf_upd rfl)))).trans rfl | exact (locOf_upd (locOf_upd (locOf_upd (locOf_upd (locOf_upd rfl))))).trans rfl | exact (locOf_upd (locOf_upd (locOf_upd (locOf_upd (locOf_upd (locOf_upd rfl)))))).trans rfl)
local macro_rules | `(tactic| walk_at "call ref") => `(tactic| (k_here; (with_reducible show wpAny _ _ (call (Value.ref 46) [Value.ref _]) _ _ _); k_dflt (refine' normal_ok _ ?B ?F ?X ?N ?T ?hk ?hd ?hu ?hm ?hi ?hl ?_; (case B => k_asm); (case F => k_asm); (case X => k_asm); (case N => k_asm); (case T => k_asm); (case hk => first | exact rfl | assumption); (case hm => k_mem); (case hi => k_asm); (case hd => ktr_room); (case hu => ktr_units); (case hl => omega); k_whole)))

def lSqr (la D : Addr) (wv : Int) (tw : Tok) (sz : Int) (tz : Tok) (M : Int) (tm : Tok) (at_ limb carry spot last : Option Value) : List (Str × Option Value) :=
  [(Str.ofString "w", some (.int wv tw)), (Str.ofString "a", some (.ref la)), (Str.ofString "size", some (.int sz tz)), (Str.ofString "found", some (.ref D)), (Str.ofString "mask", some (.int M tm)), (Str.ofString "at", at_), (Str.ofString "limb", limb), (Str.ofString "carry", carry), (Str.ofString "spot", spot), (Str.ofString "last", last)]

structure SqP (B : Int) (n : Nat) (Tot : Int) (q : Nat) (c : Int) (fs : List Int) : Prop where
  len : fs.length = 2 * n
  limbs : Limbs B fs
  c0 : 0 ≤ c
  value : val B fs + c * B ^ q = Tot
theorem carry_step {B : Int} (hB : 2 ≤ B) {n : Nat} {Tot : Int} {q : Nat} {c d : Int} {fs : List Int} (h : SqP B n Tot q c fs) (hq : q < 2 * n) (hd : 0 ≤ d) :
    SqP B n (Tot + d * B ^ q) (q + 1) ((c + (fs.getD q 0 + d)) / B) (fs.set q ((c + (fs.getD q 0 + d)) % B)) := by
  have hf := limbs_getD (by omega) h.limbs q
  have hc0 := h.c0
  generalize hX : c + (fs.getD q 0 + d) = X
  have hX0 : 0 ≤ X := by omega
  have hdv := Int.mul_ediv_add_emod X B
  refine ⟨by rw [List.length_set]; exact h.len, limbs_set h.limbs _ ⟨Int.emod_nonneg _ (by omega), Int.emod_lt_of_pos _ (by omega)⟩, Int.ediv_nonneg hX0 (by omega), ?_⟩
  rw [val_set B fs _ _ (by have := h.len; omega), ← h.value, Int.pow_succ, Int.mul_comm (B ^ q) B, ← Int.mul_assoc]
  have e2 : X % B = X - X / B * B := by rw [Int.mul_comm (X / B) B]; omega
  rw [e2, Int.sub_mul, Int.sub_mul, ← hX, Int.add_mul, Int.add_mul]
  omega
theorem sq_bound {B : Int} (hB : 2 ≤ B) {n : Nat} {Tot : Int} {q : Nat} {c : Int} {fs : List Int} (h : SqP B n Tot q c fs) (hT : Tot < B ^ (2 * n)) (hc : 0 < c) : q < 2 * n := by
  rcases Nat.lt_or_ge q (2 * n) with h1 | h1
  · exact h1
  · exfalso
    have hv := val_nonneg (by omega) h.limbs
    have hp : 0 < B ^ (2 * n) := Int.pow_pos (by omega)
    have hr : 0 < B ^ (q - 2 * n) := Int.pow_pos (by omega)
    have e : B ^ q = B ^ (2 * n) * B ^ (q - 2 * n) := by rw [← Int.pow_add]; congr 1; omega
    have h2 : B ^ (2 * n) * 1 ≤ B ^ (2 * n) * B ^ (q - 2 * n) := Int.mul_le_mul_of_nonneg_left (by omega) (by omega)
    have h3 : 1 * B ^ q ≤ c * B ^ q := Int.mul_le_mul_of_nonneg_right (by omega) (by rw [e]; omega)
    have := h.value
    omega
def sqT (B : Int) (as : List Int) (i : Nat) : Int := val B as * val B as - (val B as - val B (as.take i)) * (val B as - val B (as.take i))
theorem sqT_lt {B : Int} (hB : 2 ≤ B) {as : List Int} (h : Limbs B as) (i : Nat) : sqT B as i < B ^ (2 * as.length) := by
  have h0 := val_nonneg (by omega) h
  have h1 := val_lt (by omega) h
  have h2 : val B as * val B as ≤ val B as * B ^ as.length := Int.mul_le_mul_of_nonneg_left (by omega) h0
  have h3 : val B as * B ^ as.length < B ^ as.length * B ^ as.length := Int.mul_lt_mul_of_pos_right h1 (Int.pow_pos (by omega))
  have e : B ^ (2 * as.length) = B ^ as.length * B ^ as.length := by rw [← Int.pow_add]; congr 1; omega
  have h4 : 0 ≤ (val B as - val B (as.take i)) * (val B as - val B (as.take i)) := by
    generalize val B as - val B (as.take i) = x
    rcases Int.le_total 0 x with hx | hx
    · exact Int.mul_nonneg hx hx
    · exact Int.mul_nonneg_of_nonpos_of_nonpos hx hx
  unfold sqT
  omega
theorem sqT_succ {B : Int} {as : List Int} {i : Nat} (hi : i < as.length) : sqT B as (i + 1) = sqT B as i + as.getD i 0 * as.getD i 0 * B ^ (2 * i) + 2 * as.getD i 0 * B ^ i * (val B as - val B (as.take (i + 1))) := by
  unfold sqT
  have e := val_take_succ B as i hi
  have e2 : B ^ (2 * i) = B ^ i * B ^ i := by rw [← Int.pow_add]; congr 1; omega
  rw [e, e2]
  generalize as.getD i 0 = x
  generalize B ^ i = p
  generalize val B (as.take i) = u
  generalize val B as = A
  simp only [Int.sub_mul, Int.mul_sub, Int.add_mul, Int.mul_add]
  have h1 : x * p * A = A * (x * p) := Int.mul_comm ..
  have h2 : x * p * u = u * (x * p) := Int.mul_comm ..
  have h3 : x * x * (p * p) = x * p * (x * p) := by simp only [Int.mul_comm, Int.mul_left_comm, Int.mul_assoc]
  have h4 : 2 * x * p * A = 2 * (A * (x * p)) := by simp only [Int.mul_comm, Int.mul_left_comm, Int.mul_assoc]
  have h5 : 2 * x * p * u = 2 * (u * (x * p)) := by simp only [Int.mul_comm, Int.mul_left_comm, Int.mul_assoc]
  have h6 : 2 * x * p * (x * p) = 2 * (x * p * (x * p)) := by simp only [Int.mul_comm, Int.mul_left_comm, Int.mul_assoc]
  rw [h1, h2, h3, h4, h5, h6]
  omega
theorem sq_first {B : Int} (hB : 2 ≤ B) {as fs : List Int} {i : Nat} (hl : fs.length = 2 * as.length) (hf : Limbs B fs) (hv : val B fs = sqT B as i) (hi : i < as.length) {x : Int} (hx : 0 ≤ x) :
    SqP B as.length (sqT B as i + x * x * B ^ (2 * i)) (2 * i + 1) ((fs.getD (2 * i) 0 + x * x) / B) (fs.set (2 * i) ((fs.getD (2 * i) 0 + x * x) % B)) := by
  have h := carry_step hB (n := as.length) (Tot := sqT B as i) (q := 2 * i) (c := 0) (d := x * x) (fs := fs) ⟨hl, hf, Int.le_refl _, by rw [hv]; omega⟩ (by omega) (Int.mul_nonneg hx hx)
  rw [Int.zero_add] at h
  exact h
theorem sq_inner {B : Int} (hB : 2 ≤ B) {as fs : List Int} {i k : Nat} {V c : Int} (h : SqP B as.length (V + 2 * as.getD i 0 * B ^ i * (val B (as.take (i + 1 + k)) - val B (as.take (i + 1)))) (2 * i + 1 + k) c fs) (hk : i + 1 + k < as.length) (hla : Limbs B as) :
    SqP B as.length (V + 2 * as.getD i 0 * B ^ i * (val B (as.take (i + 1 + (k + 1))) - val B (as.take (i + 1)))) (2 * i + 1 + (k + 1)) ((c + (fs.getD (2 * i + 1 + k) 0 + 2 * as.getD i 0 * as.getD (i + 1 + k) 0)) / B) (fs.set (2 * i + 1 + k) ((c + (fs.getD (2 * i + 1 + k) 0 + 2 * as.getD i 0 * as.getD (i + 1 + k) 0)) % B)) := by
  have hx := limbs_getD (by omega) hla i
  have hy := limbs_getD (by omega) hla (i + 1 + k)
  have h1 := carry_step hB h (d := 2 * as.getD i 0 * as.getD (i + 1 + k) 0) (by omega) (Int.mul_nonneg (by omega) hy.1)
  have e : V + 2 * as.getD i 0 * B ^ i * (val B (as.take (i + 1 + (k + 1))) - val B (as.take (i + 1))) = V + 2 * as.getD i 0 * B ^ i * (val B (as.take (i + 1 + k)) - val B (as.take (i + 1))) + 2 * as.getD i 0 * as.getD (i + 1 + k) 0 * B ^ (2 * i + 1 + k) := by
    rw [show i + 1 + (k + 1) = (i + 1 + k) + 1 by omega, val_take_succ B as (i + 1 + k) hk, show 2 * i + 1 + k = i + (i + 1 + k) by omega, Int.pow_add B i (i + 1 + k)]
    generalize 2 * as.getD i 0 = x
    generalize as.getD (i + 1 + k) 0 = y
    generalize B ^ i = p
    generalize B ^ (i + 1 + k) = r
    generalize val B (as.take (i + 1 + k)) = u
    generalize val B (as.take (i + 1)) = z
    have : x * y * (p * r) = x * p * (y * r) := by simp only [Int.mul_comm, Int.mul_left_comm, Int.mul_assoc]
    rw [this, show u + y * r - z = (u - z) + y * r by omega, Int.mul_add]
    omega
  rw [e]
  exact h1
set_option maxRecDepth 100000 in
set_option maxHeartbeats 8000000 in
theorem sqr_ok (w : World) {p : Program} {loose : List Str} {mean : ExcName → Option Value} {mg mb : Str → Option Value} {dp un : Nat} {gd : Option (List Code)} {cn : Str} {cs : Scope} {a : Addr} {ccd : Value} {cl : List (Str × Addr)} {outer : List Env} {A₀ : Around} {base h₀ : Heap} {L : Addr} {m : Str → Option Value} {news : List (Addr × Obj)} {s : Shared} {Q E : Value → Shared → Prop}
  (B : Below A₀ base outer h₀) (F : Fr h₀ L s.heap m) (X : (Mine.hd.heap_39 w.params).In h₀) (N : News h₀ L s.heap news) (T : Top p loose mean mg mb h₀) (hk : cs.kind = .function) (hd : dp + 2 < recursionLimit) (hu : un + 40 < cLine)
  {la : Addr} {va : List Value} {as : List Int} {na : Nat} {wv : Int} {tw : Tok} (hma : (la, listOf va.toArray na) ∈ news) (hia : IntsAre va as) (hlen : as.length ≤ 500) (hw0 : 0 ≤ wv) (hw : wv ≤ 9)
  {Bz : Int} (hBz : (2 : Int) ^ wv.toNat = Bz) (hB2 : 2 ≤ Bz) (hB9 : Bz ≤ 512) (hla : Limbs Bz as)
  (ret : ∀ r (vs' : List Value) rs h' tk', Fr h₀ L h' m → News h₀ L h' ((r, listOf vs'.toArray 0) :: news) → (∀ p ∈ news, p.1 < r) → IntsAre vs' rs → IsRow Bz rs (val Bz as * val Bz as) → Q (.ref r) { s with heap := h', toks := tk' }) :
  wpAny (model PySem.Challenge.rw_nn0001_01.prog w) (ktrTop dp un gd cn cs L a ccd cl outer) (call (.ref 81) [.ref la, .int wv tw]) Q E s := by
  refine wpAny_call ?_
  k_dflt (refine' code_def ?k1 ?k2 ?k3 ?k4 ?k5 ?kA ?kF ?kK ?k6 ?k7 ?k8 ?k9 ?kB ?_ ?c2 ?c3 ?c4 ?c5; (case kA => exact rfl); (case kF => exact rfl); (case kK => assumption); (case k1 => k_asm); (case k2 => k_asm); (case k3 => k_asm); (case k4 => k_asm); (case k5 => k_asm); (case k6 => k_is); (case k7 => k_is); (case k8 => ktr_room); (case k9 => exact BindsTo.of_eq (binds := [(Str.ofString "a", .ref la), (Str.ofString "w", .int wv tw)]) rfl); (case c5 => decide); (case kB => exact locs rfl); (case c2 => exact rfl); (case c3 => exact rfl); (case c4 => exact rfl); k_whole)
  intro g' L' h' FG' F' N' B' X' T'
  refine wpAny_mono (E := fun _ _ => False) ?_ (fun _ _ x => x) (fun _ _ x => x.elim)
  replace F' : Fr g' L' h' (locOf [(Str.ofString "w", some (.int wv tw)), (Str.ofString "a", some (.ref la)), (Str.ofString "size", none), (Str.ofString "found", none), (Str.ofString "mask", none), (Str.ofString "at", none), (Str.ofString "limb", none), (Str.ofString "carry", none), (Str.ofString "spot", none), (Str.ofString "last", none)]) := Fr_entry [Str.ofString "size", Str.ofString "found", Str.ofString "mask", Str.ofString "at", Str.ofString "limb", Str.ofString "carry", Str.ofString "spot", Str.ofString "last"] F'
  clear F N B X T
  generalize hS : (Stmt.For _ _ _ _ _) = S
  k_steps
  subst hS
  rename_i tz l0 _ _ D _ i1 n1 s1 e1 e2 e3 l1 T _ _ _ _ _ F1 N1
  generalize hvf : (List.replicate (2 * (as.length : Int)).toNat [Value.int 0 _]).flatten = vf at i1 N1
  have N2 : News g' L' _ ([(D, listOf vf.toArray 0)] ++ news) := fun p hp => N1 p (by
    simp only [List.mem_cons, List.cons_append, List.nil_append] at hp ⊢
    rcases hp with h | h
    · exact .inr (.inl h)
    · exact .inr (.inr (.inr h)))
  clear N1
  have hoff := off_one (o := listOf vf.toArray 0) (of_allLt _ l1.2)
  generalize hM : (1 * 2 ^ wv.toNat - 1 : Int) = M at F1
  have eM : ∀ x : Int, Builtin.bitAnd x M = x % Bz := by
    intro x
    rw [← hM, ← hBz, Int.one_mul]
    exact kbt_mask x _
  have eS : ∀ x : Int, x.fdiv (2 ^ wv.toNat) = x / Bz := by
    intro x
    rw [hBz, Int.fdiv_eq_ediv_of_nonneg _ (by omega)]
  refine For_turns F1 ?_ (hE := PassesOwn.never)
  generalize hP : (fun xv s₁ => wpAny _ _ (pyIter xv) _ _ s₁) = P
  k_steps
  subst hP
  refine call_enum (C := [(D, listOf vf.toArray 0)]) (rest := news) (fun i m₁ C => ∃ fs v2 n2 at_ limb carry spot last tz tm, C = [(D, listOf (List.toArray v2) n2)] ∧ IntsAre v2 fs ∧ fs.length = 2 * as.length ∧ Limbs Bz fs ∧ val Bz fs = sqT Bz as i ∧ m₁ = locOf (lSqr la D wv tw as.length tz M tm at_ limb carry spot last)) hma hia F1 N2 hoff ?_ ?_ ?_ rfl
  · refine ⟨_, vf, 0, none, none, none, none, none, _, _, rfl, i1, ?_, ?_, ?_, by walk_at "loc"⟩
    · rw [flat_rep, List.length_replicate]; omega
    · rw [flat_rep]
      intro x hx
      rw [(List.mem_replicate.mp hx).2]
      omega
    · rw [flat_rep, val_replicate]
      unfold sqT
      simp [val]
  · rintro i T t t' m₁ C₁ rest' h2 tk2 hi hT ⟨fs, v2, n2, at_, limb, carry, spot, last, tz, tm, rfl, hif, hl2, hL2, hv2, rfl⟩ hadr hsub hsep F2 N2
    simp only [List.cons_append, List.nil_append] at N2
    replace F2 : Fr g' L' h2 (locOf (lSqr la D wv tw as.length tz M tm at_ limb carry spot last)) := F2
    replace N2 : News g' L' h2 ((D, listOf v2.toArray n2) :: rest') := N2
    have hma' := hsub _ hma
    have hx := limbs_getD (by omega) hla i
    have hsepD : ∀ p ∈ rest', p.1 ≠ D := fun p hp => hsep p hp D (List.mem_singleton.mpr rfl)
    clear hadr F1
    generalize hS : (Stmt.For _ _ _ _ _) = S
    generalize hW : (Stmt.While _ _ _ _) = SW
    k_steps
    subst hS
    (rename Fr _ _ _ _ => F3); (rename News _ _ _ _ => N3); (rename IntsAre _ _ => hi3)
    have hl3 : (fs.set (2 * (i : Int)).toNat (Builtin.bitAnd (fs.getD (2 * (i : Int)).toNat 0 + as.getD i 0 * as.getD i 0) M)).length = 2 * as.length := by rw [List.length_set]; exact hl2
    have hsq := sq_first hB2 hl2 hL2 hv2 hi hx.1
    have ei : (2 * (i : Int)).toNat = 2 * i := by omega
    rw [eS] at F3
    rw [ei, eM] at hi3 N3
    generalize hV : sqT Bz as i + as.getD i 0 * as.getD i 0 * Bz ^ (2 * i) = V at hsq
    generalize (v2.set (2 * i) _) = v3 at hi3 N3
    generalize (fs.set (2 * i) _) = fs3 at hi3 hsq
    rw [ei] at F3
    generalize ((fs.getD (2 * i) 0 + as.getD i 0 * as.getD i 0) / Bz) = c3 at F3 hsq
    clear hl3
    refine For_invV g' rfl rfl ?_ (hE := PassesOwn.never)
    generalize hP : (fun xv s₁ => wpAny _ _ (pyIter xv) _ _ s₁) = P
    k_steps
    subst hP
    rename_i h4 tk4 t1 u1 v1 hr F4 N4 hk4
    have hsep2 : ∀ p ∈ rest', ∀ a ∈ ([(D, listOf v3.toArray n2)] : Led).map (·.1), p.1 ≠ a := hsep
    refine iter_range_one (as.length - (i + 1)) (C := [(D, listOf v3.toArray n2)]) (rest := rest') (fun k m₁ C => ∃ fs' v4 n4 c tc spot last, C = [(D, listOf (List.toArray v4) n4)] ∧ IntsAre v4 fs' ∧ SqP Bz as.length (V + 2 * as.getD i 0 * Bz ^ i * (val Bz (as.take (i + 1 + k)) - val Bz (as.take (i + 1)))) (2 * i + 1 + k) c fs' ∧ m₁ = locOf (lSqr la D wv tw as.length tz M tm (some (.int (i : Int) t)) (some (.int (as.getD i 0) t')) (some (.int c tc)) spot last)) hr (by omega) (by omega) (by omega) (by omega) (by omega) F4 N4 hsep2 ?_ ?_ ?_ rfl
    · exact ⟨fs3, v3, n2, c3, _, _, _, rfl, hi3, by simpa using hsq, by walk_at "loc"⟩
    · rintro k tk1 m₂ C₂ rest2 h5 tk5 hk ⟨fs', v4, n4, c, tc, spot2, last2, rfl, hif', hI, rfl⟩ hadr hsub2 hsep3 F5 N5
      simp only [List.cons_append, List.nil_append] at N5
      replace F5 : Fr g' L' h5 _ := F5
      replace N5 : News g' L' h5 ((D, listOf v4.toArray n4) :: rest2) := N5
      have hsepD2 : ∀ p ∈ rest2, p.1 ≠ D := fun p hp => hsep3 p hp D (List.mem_singleton.mpr rfl)
      have hma2 := hsub2 _ hma'
      have hl5 := hI.len
      have hy := limbs_getD (by omega) hla (i + 1 + k)
      have ek : ((i : Int) + 1 + (k : Int)).toNat = i + 1 + k := by omega
      have ek2 : ((i : Int) + ((i : Int) + 1 + (k : Int))).toNat = 2 * i + 1 + k := by omega
      clear hadr F4 N4 hi3 hr
      k_steps
      (rename Fr _ _ _ _ => F6); (rename News _ _ _ _ => N6); (rename IntsAre _ _ => hi6)
      refine ⟨_, _, _, [(D, _)], rfl, F6, N6, rfl, _, _, _, _, _, _, _, rfl, hi6, ?_, by walk_at "loc"⟩
      rw [ek2, ek, eM, eS]
      exact sq_inner hB2 hI (by omega) hla
    · rintro m₂ C₂ h5 tk5 ⟨fs', v4, n4, c, tc, spot2, last2, rfl, hif', hI, rfl⟩ hadr F5 N5
      simp only [List.cons_append, List.nil_append] at N5
      replace F5 : Fr g' L' h5 _ := F5
      replace N5 : News g' L' h5 ((D, listOf v4.toArray n4) :: rest') := N5
      have hI2 : SqP Bz as.length (sqT Bz as (i + 1)) (i + as.length) c fs' := by
        rw [sqT_succ hi, hV]
        have e1 : i + 1 + (as.length - (i + 1)) = as.length := by omega
        have e2 : 2 * i + 1 + (as.length - (i + 1)) = i + as.length := by omega
        rw [e1, e2, List.take_length] at hI
        exact hI
      clear hadr F4 N4 hi3 hr hI
      dsimp only
      k_steps
      subst hW
      (rename Fr _ _ _ _ => F6); (rename News _ _ _ _ => N6)
      refine While_inv2 (n₀ := 2 * as.length - (i + as.length)) (fun nn m₁ C => ∃ q fs v nv c tc tl lq spot, nn = 2 * as.length - q ∧ lq = (q : Int) ∧ C = (D, listOf (List.toArray v) nv) :: rest' ∧ IntsAre v fs ∧ SqP Bz as.length (sqT Bz as (i + 1)) q c fs ∧ m₁ = locOf (lSqr la D wv tw as.length tz M tm (some (.int (i : Int) t)) (some (.int (as.getD i 0) t')) (some (.int c tc)) spot (some (.int lq tl)))) F6 N6 ⟨i + as.length, fs', v4, n4, c, _, _, _, _, rfl, ?_, rfl, hif', hI2, by walk_at "loc"⟩ ?_ PassesOwn.never
      · omega
      · rintro nn m₃ C₃ h6 tk6 F7 N7 ⟨q, fs7, v7, n7, c7, tc7, tl7, lq, spot7, rfl, hlq, rfl, hi7, hI7, rfl⟩
        have hb : 0 < c7 → q < 2 * as.length := sq_bound hB2 hI7 (sqT_lt hB2 hla _)
        have hl7 := hI7.len
        have hq7 : lq.toNat = q := by omega
        clear F6 N6 hif' hI2
        k_steps
        · (rename Fr _ _ _ _ => F8); (rename News _ _ _ _ => N8); (rename IntsAre _ _ => hi8); (rename 0 < c7 => hc7)
          have hs8 := carry_step hB2 hI7 (hb hc7) (Int.le_refl 0)
          rw [Int.zero_mul, Int.add_zero, Int.add_zero] at hs8
          refine ⟨_, _, _, _, 2 * as.length - (q + 1), rfl, F8, N8, by have := hb hc7; omega, q + 1, _, _, _, _, _, _, _, _, rfl, ?_, rfl, hi8, ?_, by walk_at "loc"⟩
          · omega
          · rw [hq7, eM, eS]
            exact hs8
        · (rename Fr _ _ _ _ => F8); (rename News _ _ _ _ => N8); (rename ¬ 0 < c7 => hc7)
          have hc8 : c7 = 0 := by have := hI7.c0; omega
          refine ⟨_, _, _, [(D, _)], rfl, F8, N8, rfl, _, _, _, _, _, _, _, _, _, _, rfl, hi7, hl7, hI7.limbs, ?_, rfl⟩
          have := hI7.value
          rw [hc8] at this
          omega
  · rintro m₁ C₁ h2 tk2 ⟨fs, v2, n2, at_, limb, carry, spot, last, tz, tm, rfl, hif, hl2, hL2, hv2, rfl⟩ hadr F2 N2
    simp only [List.cons_append, List.nil_append] at N2
    replace F2 : Fr g' L' h2 (locOf (lSqr la D wv tw as.length tz M tm at_ limb carry spot last)) := F2
    replace N2 : News g' L' h2 ((D, listOf v2.toArray n2) :: news) := N2
    clear hadr F1
    dsimp only
    k_steps
    rename_i r vs' h3 tk3 F3 N3 l3 hi3
    have hrow := trim_row hL2
    rw [hv2, sqT, List.take_length] at hrow
    simp only [Int.sub_self, Int.mul_zero, Int.sub_zero] at hrow
    refine leaveK_ F3 N3 fun kF kN => ret _ _ _ _ _ kF (fun p hp => kN p ?_) (fun p hp => l3 p (List.mem_cons_of_mem _ hp)) hi3 hrow
    rcases List.mem_cons.mp hp with rfl | hp
    · exact List.mem_cons_self ..
    · exact List.mem_cons_of_mem _ (List.mem_cons_of_mem _ hp)
end Mine
/-! ## Add -/
namespace Mine
theorem anew_Add : True := by
  w_top off
  exact trivial
local macro_rules | `(tactic| k_mem) => `(tactic| first | (with_reducible assumption) | (refine List.mem_cons_of_mem _ ?_; k_mem))
local macro_rules | `(tactic| walk_at "call builtin:len") => `(tactic| (k_here; (with_reducible show wpAny _ _ (call (Value.builtin "len") [Value.ref _]) _ _ _); k_dflt (refine' len_ints ?k1 ?k2 ?k3 ?k4 ?_; (case k1 => k_asm); (case k2 => k_mem); (case k3 => k_asm); (case k4 => omega); k_whole); intro _ _))
local macro_rules | `(tactic| k_all) => `(tactic| assumption)
local macro_rules | `(tactic| walk_at "loc") => `(tactic| first | exact rfl | exact (locOf_upd rfl).trans rfl | exact (locOf_upd (locOf_upd rfl)).trans rfl | exact (locOf_upd (locOf_upd (locOf_upd rfl))).trans rfl | exact (locOf_upd (locOf_upd (locOf_upd (locOf_upd rfl)))).trans rfl | exact (locOf_upd (locOf_upd (locOf_upd (locOf_upd (locOf_upd rfl))))).trans rfl | exact (locOf_upd (locOf_upd (locOf_upd (locOf_upd (locOf_upd (locOf_upd rfl)))))).trans rfl)

def lAdd (la lb D : Addr) (wv : Int) (tw : Tok) (M : Int) (tm : Tok) (carry : Value) (at_ : Option Value) : List (Str × Option Value) :=
  [(Str.ofString "w", some (.int wv tw)), (Str.ofString "b", some (.ref lb)), (Str.ofString "a", some (.ref la)), (Str.ofString "found", some (.ref D)), (Str.ofString "carry", some carry), (Str.ofString "mask", some (.int M tm)), (Str.ofString "at", at_)]
structure AddP (B : Int) (as bs : List Int) (i : Nat) (c : Int) (fs : List Int) : Prop where
  len : fs.length = i
  limbs : Limbs B fs
  c0 : 0 ≤ c
  c1 : c ≤ 1
  value : val B fs + c * B ^ i = val B (as.take i) + val B (bs.take i)
  top : ∀ k, i = k + 1 → c = 0 → as.getD k 0 ≤ fs.getD k 0
theorem add_start {B : Int} (_hB : 0 < B) {as bs : List Int} : AddP B as bs 0 0 [] where
  len := rfl
  limbs := fun _ h => absurd h List.not_mem_nil
  c0 := Int.le_refl _
  c1 := by omega
  value := by simp [val]
  top := fun k h => by omega
theorem add_both {B : Int} (hB : 2 ≤ B) {as bs fs : List Int} {i : Nat} {c x y X : Int} (h : AddP B as bs i c fs) (hx : 0 ≤ x ∧ x < B) (hy : 0 ≤ y ∧ y < B)
    (ea : val B (as.take (i + 1)) = val B (as.take i) + x * B ^ i) (eb : val B (bs.take (i + 1)) = val B (bs.take i) + y * B ^ i) (hxa : as.getD i 0 = x) (hX : X = c + (x + y)) :
    AddP B as bs (i + 1) (X / B) (fs ++ [X % B]) := by
  have hc0 := h.c0
  have hc1 := h.c1
  have hX0 : 0 ≤ X := by omega
  have hX1 : X < 2 * B := by omega
  have hdv := Int.mul_ediv_add_emod X B
  have hm0 := Int.emod_nonneg X (show B ≠ 0 by omega)
  have hm1 := Int.emod_lt_of_pos X (show 0 < B by omega)
  refine ⟨by rw [List.length_append, h.len]; rfl, ?_, Int.ediv_nonneg hX0 (by omega), ?_, ?_, ?_⟩
  · intro z hz
    rcases List.mem_append.mp hz with hz | hz
    · exact h.limbs z hz
    · rw [List.mem_singleton.mp hz]; exact ⟨hm0, hm1⟩
  · have : X / B < 2 := Int.ediv_lt_of_lt_mul (by omega) hX1
    omega
  · rw [val_append, h.len, ea, eb, Int.pow_succ, Int.mul_comm (B ^ i) B, ← Int.mul_assoc]
    have e2 : X % B = X - X / B * B := by rw [Int.mul_comm (X / B) B]; omega
    have hv := h.value
    simp only [val, Int.mul_zero, Int.add_zero]
    rw [e2, Int.mul_sub, Int.mul_comm (B ^ i) X, Int.mul_comm (B ^ i) (X / B * B), hX, Int.add_mul, Int.add_mul]
    omega
  · intro k hk hc
    obtain rfl : i = k := by omega
    have e : (fs ++ [X % B]).getD i 0 = X % B := by
      have := h.len
      rw [List.getD_eq_getElem?_getD, List.getElem?_append_right (by omega)]
      simp [this]
    rw [e, hxa]
    have : X / B * B = 0 := by rw [hc]; simp
    have e2 : X % B = X - X / B * B := by rw [Int.mul_comm (X / B) B]; omega
    omega
theorem add_end {B Na Nb : Int} (hB : 2 ≤ B) {as bs fs : List Int} {c : Int} (h : AddP B as bs as.length c fs) (ha : IsRow B as Na) (hb : IsRow B bs Nb) (hl : bs.length ≤ as.length) :
    (0 < c → IsRow B (fs ++ [c]) (Na + Nb)) ∧ (¬ 0 < c → IsRow B fs (Na + Nb)) := by
  have hv := h.value
  rw [List.take_length, List.take_of_length_le hl, ha.value, hb.value] at hv
  have hc0 := h.c0
  have hc1 := h.c1
  refine ⟨fun hc => ⟨?_, ?_, ?_⟩, fun hc => ⟨h.limbs, ?_, ?_⟩⟩
  · intro z hz
    rcases List.mem_append.mp hz with hz | hz
    · exact h.limbs z hz
    · rw [List.mem_singleton.mp hz]; omega
  · rw [val_append, h.len]
    simp only [val, Int.mul_zero, Int.add_zero]
    rw [Int.mul_comm]
    exact hv
  · intro hne
    rw [List.getLast_concat]
    omega
  · have : c = 0 := by omega
    rw [this] at hv
    omega
  · intro hne
    have hl1 := h.len
    have hn : fs.length ≠ 0 := fun e => hne (List.eq_nil_of_length_eq_zero e)
    have hne2 : as ≠ [] := fun e => by rw [e] at hl1; exact hn (by simpa using hl1)
    have h1 := h.top (as.length - 1) (by omega) (by omega)
    have h2 := ha.top hne2
    have e1 : as.getLast hne2 = as.getD (as.length - 1) 0 := by
      rw [List.getLast_eq_getElem, List.getD_eq_getElem?_getD, List.getElem?_eq_getElem (by omega)]; rfl
    have e2 : fs.getLast hne = fs.getD (as.length - 1) 0 := by
      rw [List.getLast_eq_getElem, List.getD_eq_getElem?_getD, List.getElem?_eq_getElem (by omega)]
      simp [hl1]
    have h3 := limbs_getD (by omega) ha.limbs (as.length - 1)
    rw [e1] at h2
    rw [e2]
    omega
set_option maxRecDepth 100000 in
set_option maxHeartbeats 8000000 in
theorem add_ok (w : World) {p : Program} {loose : List Str} {mean : ExcName → Option Value} {mg mb : Str → Option Value} {dp un : Nat} {gd : Option (List Code)} {cn : Str} {cs : Scope} {a : Addr} {ccd : Value} {cl : List (Str × Addr)} {outer : List Env} {A₀ : Around} {base h₀ : Heap} {L : Addr} {m : Str → Option Value} {news : List (Addr × Obj)} {s : Shared} {Q E : Value → Shared → Prop}
  (B : Below A₀ base outer h₀) (F : Fr h₀ L s.heap m) (X : (Mine.hd.heap_39 w.params).In h₀) (N : News h₀ L s.heap news) (T : Top p loose mean mg mb h₀) (hk : cs.kind = .function) (hd : dp + 1 < recursionLimit) (hu : un + 24 < cLine)
  {la lb : Addr} {va vb : List Value} {as bs : List Int} {na nb : Nat} {wv : Int} {tw : Tok} (hma : (la, listOf va.toArray na) ∈ news) (hia : IntsAre va as) (hmb : (lb, listOf vb.toArray nb) ∈ news) (hib : IntsAre vb bs) (hlena : as.length ≤ 500) (hlenb : bs.length ≤ 500) (hw0 : 0 ≤ wv) (hw : wv ≤ 9)
  {Bz Na Nb : Int} (hBz : (2 : Int) ^ wv.toNat = Bz) (hB2 : 2 ≤ Bz) (hB9 : Bz ≤ 512) (hra : IsRow Bz as Na) (hrb : IsRow Bz bs Nb)
  (ret : ∀ r (vs' : List Value) rs n' h' tk', Fr h₀ L h' m → News h₀ L h' ((r, listOf vs'.toArray n') :: news) → (∀ p ∈ news, p.1 < r) → IntsAre vs' rs → IsRow Bz rs (Na + Nb) → Q (.ref r) { s with heap := h', toks := tk' }) :
  wpAny (model PySem.Challenge.rw_nn0001_01.prog w) (ktrTop dp un gd cn cs L a ccd cl outer) (call (.ref 60) [.ref la, .ref lb, .int wv tw]) Q E s := by
  refine wpAny_call ?_
  k_dflt (refine' code_def ?k1 ?k2 ?k3 ?k4 ?k5 ?kA ?kF ?kK ?k6 ?k7 ?k8 ?k9 ?kB ?_ ?c2 ?c3 ?c4 ?c5; (case kA => exact rfl); (case kF => exact rfl); (case kK => assumption); (case k1 => k_asm); (case k2 => k_asm); (case k3 => k_asm); (case k4 => k_asm); (case k5 => k_asm); (case k6 => k_is); (case k7 => k_is); (case k8 => ktr_room); (case k9 => exact BindsTo.of_eq (binds := [(Str.ofString "a", .ref la), (Str.ofString "b", .ref lb), (Str.ofString "w", .int wv tw)]) rfl); (case c5 => decide); (case kB => exact locs rfl); (case c2 => exact rfl); (case c3 => exact rfl); (case c4 => exact rfl); k_whole)
  intro g' L' h' FG' F' N' B' X' T'
  refine wpAny_mono (E := fun _ _ => False) ?_ (fun _ _ x => x) (fun _ _ x => x.elim)
  replace F' : Fr g' L' h' (locOf [(Str.ofString "w", some (.int wv tw)), (Str.ofString "b", some (.ref lb)), (Str.ofString "a", some (.ref la)), (Str.ofString "found", none), (Str.ofString "carry", none), (Str.ofString "mask", none), (Str.ofString "at", none)]) := Fr_entry [Str.ofString "found", Str.ofString "carry", Str.ofString "mask", Str.ofString "at"] F'
  clear F N B X T
  generalize hR : ((Stmt.For _ _ _ _ _) :: (Stmt.For _ _ _ _ _) :: _ : List Stmt) = REST
  obtain ⟨PP, hPP⟩ : ∃ PP : Shared → Prop, PP = fun s' => ∃ h tk la2 lb2 va2 vb2 as2 bs2 na2 nb2 Na2 Nb2 D M tm tc tf, s' = { s with heap := h, toks := tk } ∧ (la2, listOf (List.toArray va2) na2) ∈ news ∧ (lb2, listOf (List.toArray vb2) nb2) ∈ news ∧ IntsAre va2 as2 ∧ IntsAre vb2 bs2 ∧ IsRow Bz as2 Na2 ∧ IsRow Bz bs2 Nb2 ∧ Na2 + Nb2 = Na + Nb ∧ bs2.length ≤ as2.length ∧ as2.length ≤ 500 ∧ M = 1 * 2 ^ wv.toNat - 1 ∧ (∀ p ∈ news, p.1 < D) ∧
    Fr g' L' h (locOf [(Str.ofString "w", some (.int wv tw)), (Str.ofString "b", some (.ref lb2)), (Str.ofString "a", some (.ref la2)), (Str.ofString "found", some (.ref D)), (Str.ofString "carry", some (.int 0 tc)), (Str.ofString "mask", some (.int M tm)), (Str.ofString "at", none)]) ∧ News g' L' h ((D, listOf (List.toArray []) tf) :: news) := ⟨_, rfl⟩
  refine execs_split [_, _] (P := PP) ?_ ?_
  · k_steps
    · rename_i hc T0 _ _ _ _ _ _ D _ l1 T _ _ _ _ _ _ F3 N3
      subst hPP
      refine ⟨_, _, lb, la, vb, va, bs, as, nb, na, Nb, Na, D, _, _, _, 0, rfl, hmb, hma, hib, hia, hrb, hra, by omega, by omega, hlenb, rfl, of_allLt _ l1.2, Fr_cast F3 (by walk_at "loc"), fun p hp => N3 p ?_⟩
      rcases List.mem_cons.mp hp with rfl | hp
      · exact List.mem_cons_of_mem _ (List.mem_cons_self ..)
      · exact List.mem_cons_of_mem _ (List.mem_cons_of_mem _ (List.mem_cons_of_mem _ hp))
    · rename_i hc D _ l1 T _ _ _ _ _ _ F3 N3
      subst hPP
      refine ⟨_, _, la, lb, va, vb, as, bs, na, nb, Na, Nb, D, _, _, _, 0, rfl, hma, hmb, hia, hib, hra, hrb, rfl, by omega, hlena, rfl, by assumption, Fr_cast F3 (by walk_at "loc"), fun p hp => N3 p ?_⟩
      rcases List.mem_cons.mp hp with rfl | hp
      · exact List.mem_cons_of_mem _ (List.mem_cons_self ..)
      · exact List.mem_cons_of_mem _ (List.mem_cons_of_mem _ hp)
  · intro s' hP
    subst hPP
    obtain ⟨h1, tk1, la2, lb2, va2, vb2, as2, bs2, na2, nb2, Na2, Nb2, D, M, tm, tc, tf, rfl, hma2, hmb2, hia2, hib2, hra2, hrb2, hN2, hle, hle2, hM, hD, F3, N3⟩ := hP
    subst hR
    clear hma hmb hia hib hra hrb F' N' hlena hlenb
    have eM : ∀ x : Int, Builtin.bitAnd x M = x % Bz := by
      intro x
      rw [hM, ← hBz, Int.one_mul]
      exact kbt_mask x _
    have eS : ∀ x : Int, x.fdiv (2 ^ wv.toNat) = x / Bz := by
      intro x
      rw [hBz, Int.fdiv_eq_ediv_of_nonneg _ (by omega)]
    generalize hS1 : (Stmt.For _ _ _ _ _) = S1
    generalize hS2 : (Stmt.For _ _ _ _ _) = S2
    generalize hS3 : (Stmt.If _ _ _ _) = S3
    k_steps
    subst hS1
    refine For_invV g' rfl rfl ?_ (hE := PassesOwn.never)
    generalize hP : (fun xv s₁ => wpAny _ _ (pyIter xv) _ _ s₁) = P
    k_steps
    subst hP
    rename_i h4 tk4 t1 u1 v1 hr F4 N4 hk4
    have hsep2 := off_one (o := listOf (List.toArray []) tf) hD
    refine iter_range_one bs2.length (C := [(D, listOf (List.toArray []) tf)]) (rest := news) (fun k m₁ C => ∃ fs vf nf c tc at_, C = [(D, listOf (List.toArray vf) nf)] ∧ IntsAre vf fs ∧ AddP Bz as2 bs2 k c fs ∧ m₁ = locOf (lAdd la2 lb2 D wv tw M tm (.int c tc) at_)) hr (by omega) (by omega) (by omega) (by omega) (by omega) F4 N4 hsep2 ?_ ?_ ?_ rfl
    · exact ⟨[], [], tf, 0, tc, none, rfl, .nil, add_start (by omega), rfl⟩
    · rintro k tk1 m₂ C₂ rest2 h5 tk5 hk ⟨fs, vf, nf, c, tc, at_, rfl, hif, hI, rfl⟩ hadr hsub2 hsep3 F5 N5
      simp only [List.cons_append, List.nil_append] at N5
      replace F5 : Fr g' L' h5 _ := F5
      replace N5 : News g' L' h5 ((D, listOf vf.toArray nf) :: rest2) := N5
      have hsepD2 : ∀ p ∈ rest2, p.1 ≠ D := fun p hp => hsep3 p hp D (List.mem_singleton.mpr rfl)
      have hma3 := hsub2 _ hma2
      have hmb3 := hsub2 _ hmb2
      have hl5 := hI.len
      have ek : ((0 : Int) + (k : Int)).toNat = k := by omega
      clear hadr F4 N4 hr
      k_steps
      (rename Fr _ _ _ _ => F6); (rename News _ _ _ _ => N6)
      rw [List.push_toArray, ek, eM] at N6
      refine ⟨_, _, _, [(D, _)], rfl, F6, N6, rfl, _, _, _, _, _, _, rfl, ints_snoc hif, ?_, by walk_at "loc"⟩
      rw [ek, eS]
      exact add_both hB2 hI (limbs_getD (by omega) hra2.limbs k) (limbs_getD (by omega) hrb2.limbs k) (val_take_succ _ _ _ (by omega)) (val_take_succ _ _ _ hk) rfl rfl
    · rintro m₂ C₂ h5 tk5 ⟨fs, vf, nf, c, tc, at_, rfl, hif, hI, rfl⟩ hadr F5 N5
      simp only [List.cons_append, List.nil_append] at N5
      replace F5 : Fr g' L' h5 _ := F5
      replace N5 : News g' L' h5 ((D, listOf vf.toArray nf) :: news) := N5
      clear hadr F4 N4 hr
      dsimp only
      k_steps
      subst hS2
      refine For_invV g' rfl rfl ?_ (hE := PassesOwn.never)
      generalize hP : (fun xv s₁ => wpAny _ _ (pyIter xv) _ _ s₁) = P
      k_steps
      subst hP
      rename_i h6 tk6 t2 u2 v2 hr2 F6 N6 hk6
      have hsep3 := off_one (o := listOf vf.toArray nf) hD
      refine iter_range_one (as2.length - bs2.length) (C := [(D, listOf vf.toArray nf)]) (rest := news) (fun k m₁ C => ∃ fs vf nf c tc at_, C = [(D, listOf (List.toArray vf) nf)] ∧ IntsAre vf fs ∧ AddP Bz as2 bs2 (bs2.length + k) c fs ∧ m₁ = locOf (lAdd la2 lb2 D wv tw M tm (.int c tc) at_)) hr2 (by omega) (by omega) (by omega) (by omega) (by omega) F6 N6 hsep3 ?_ ?_ ?_ rfl
      · exact ⟨fs, vf, nf, c, tc, at_, rfl, hif, hI, rfl⟩
      · rintro k tk7 m₃ C₃ rest3 h7 tk8 hk ⟨fs3, vf3, nf3, c3, tc3, at3, rfl, hif3, hI3, rfl⟩ hadr hsub3 hsep4 F7 N7
        simp only [List.cons_append, List.nil_append] at N7
        replace F7 : Fr g' L' h7 _ := F7
        replace N7 : News g' L' h7 ((D, listOf vf3.toArray nf3) :: rest3) := N7
        have hsepD3 : ∀ p ∈ rest3, p.1 ≠ D := fun p hp => hsep4 p hp D (List.mem_singleton.mpr rfl)
        have hma3 := hsub3 _ hma2
        have hl5 := hI3.len
        have ek : ((bs2.length : Int) + (k : Int)).toNat = bs2.length + k := by omega
        clear hadr F6 N6 hr2 hif hI
        k_steps
        (rename Fr _ _ _ _ => F8); (rename News _ _ _ _ => N8)
        rw [List.push_toArray, ek, eM] at N8
        refine ⟨_, _, _, [(D, _)], rfl, F8, N8, rfl, _, _, _, _, _, _, rfl, ints_snoc hif3, ?_, by walk_at "loc"⟩
        rw [ek, eS]
        have q1 : bs2.length + k < as2.length := by omega
        have q2 := val_take_succ Bz as2 (bs2.length + k) q1
        have q3 : bs2.take (bs2.length + k) = bs2 := List.take_of_length_le (by omega)
        have q4 : bs2.take (bs2.length + k + 1) = bs2 := List.take_of_length_le (by omega)
        exact add_both (i := bs2.length + k) hB2 hI3 (limbs_getD (by omega) hra2.limbs (bs2.length + k)) (y := 0) ⟨Int.le_refl _, by omega⟩ q2 (by rw [q3, q4]; omega) rfl (by rw [Int.add_zero])
      · rintro m₃ C₃ h7 tk7 ⟨fs3, vf3, nf3, c3, tc3, at3, rfl, hif3, hI3, rfl⟩ hadr F7 N7
        simp only [List.cons_append, List.nil_append] at N7
        replace F7 : Fr g' L' h7 _ := F7
        replace N7 : News g' L' h7 ((D, listOf vf3.toArray nf3) :: news) := N7
        have hsepD4 : ∀ p ∈ news, p.1 ≠ D := fun p hp => Nat.ne_of_lt (hD p hp)
        have hl5 := hI3.len
        rw [show bs2.length + (as2.length - bs2.length) = as2.length by omega] at hI3
        have hend := add_end hB2 hI3 hra2 hrb2 hle
        rw [hN2] at hend
        clear hadr F6 N6 hr2 hif hI
        dsimp only
        k_steps
        subst hS3
        k_steps
        · (rename Fr _ _ _ _ => F9); (rename News _ _ _ _ => N9); (rename 0 < c3 => hc9)
          rw [List.push_toArray] at N9
          dsimp only
          exact leaveK_ F9 N9 fun kF kN => ret _ _ _ _ _ _ kF kN hD (ints_snoc hif3) (hend.1 hc9)
        · (rename Fr _ _ _ _ => F9); (rename News _ _ _ _ => N9); (rename ¬ 0 < c3 => hc9)
          dsimp only
          exact leaveK_ F9 N9 fun kF kN => ret _ _ _ _ _ _ kF kN hD hif3 (hend.2 hc9)
end Mine
/-! ## Cmp -/
namespace Mine
theorem anew_Cmp : True := by
  w_top off
  exact trivial
local macro_rules | `(tactic| k_mem) => `(tactic| first | (with_reducible assumption) | (refine List.mem_cons_of_mem _ ?_; k_mem))
local macro_rules | `(tactic| walk_at "call builtin:len") => `(tactic| (k_here; (with_reducible show wpAny _ _ (call (Value.builtin "len") [Value.ref _]) _ _ _); k_dflt (refine' len_ints ?k1 ?k2 ?k3 ?k4 ?_; (case k1 => k_asm); (case k2 => k_mem); (case k3 => k_asm); (case k4 => omega); k_whole); intro _ _))
local macro_rules | `(tactic| walk_at "loc") => `(tactic| first | exact rfl | exact (locOf_upd rfl).trans rfl | exact (locOf_upd (locOf_upd rfl)).trans rfl | exact (locOf_upd (locOf_upd (locOf_upd rfl))).trans rfl | exact (locOf_upd (locOf_upd (locOf_upd (locOf_upd rfl)))).trans rfl | exact (locOf_upd (locOf_upd (locOf_upd (locOf_upd (locOf_upd rfl))))).trans rfl | exact (locOf_upd (locOf_upd (locOf_upd (locOf_upd (locOf_upd (locOf_upd rfl)))))).trans rfl)
set_option maxRecDepth 100000 in
set_option maxHeartbeats 8000000 in
theorem compare_ok (w : World) {p : Program} {loose : List Str} {mean : ExcName → Option Value} {mg mb : Str → Option Value} {dp un : Nat} {gd : Option (List Code)} {cn : Str} {cs : Scope} {a : Addr} {ccd : Value} {cl : List (Str × Addr)} {outer : List Env} {A₀ : Around} {base h₀ : Heap} {L : Addr} {m : Str → Option Value} {news : List (Addr × Obj)} {s : Shared} {Q E : Value → Shared → Prop}
  (B : Below A₀ base outer h₀) (F : Fr h₀ L s.heap m) (X : (Mine.hd.heap_39 w.params).In h₀) (N : News h₀ L s.heap news) (T : Top p loose mean mg mb h₀) (hk : cs.kind = .function) (hd : dp + 1 < recursionLimit) (hu : un + 24 < cLine)
  {la lb : Addr} {va vb : List Value} {ns : List Int} {na nb : Nat} (hma : (la, listOf va.toArray na) ∈ news) (hia : IntsAre va ns) (hmb : (lb, listOf vb.toArray nb) ∈ news) (hib : IntsAre vb ns) (hlen : ns.length ≤ 900)
  (ret : ∀ t h' tk', Fr h₀ L h' m → News h₀ L h' news → Q (.int 0 t) { s with heap := h', toks := tk' }) :
  wpAny (model PySem.Challenge.rw_nn0001_01.prog w) (ktrTop dp un gd cn cs L a ccd cl outer) (call (.ref 53) [.ref la, .ref lb]) Q E s := by
  refine wpAny_call ?_
  k_dflt (refine' code_def ?k1 ?k2 ?k3 ?k4 ?k5 ?kA ?kF ?kK ?k6 ?k7 ?k8 ?k9 ?kB ?_ ?c2 ?c3 ?c4 ?c5; (case kA => exact rfl); (case kF => exact rfl); (case kK => assumption); (case k1 => k_asm); (case k2 => k_asm); (case k3 => k_asm); (case k4 => k_asm); (case k5 => k_asm); (case k6 => k_is); (case k7 => k_is); (case k8 => ktr_room); (case k9 => exact BindsTo.of_eq (binds := [(Str.ofString "a", .ref la), (Str.ofString "b", .ref lb)]) rfl); (case c5 => decide); (case kB => exact locs rfl); (case c2 => exact rfl); (case c3 => exact rfl); (case c4 => exact rfl); k_whole)
  intro g' L' h' FG' F' N' B' X' T'
  refine wpAny_mono (E := fun _ _ => False) ?_ (fun _ _ x => x) (fun _ _ x => x.elim)
  replace F' : Fr g' L' h' (locOf [(Str.ofString "b", some (.ref lb)), (Str.ofString "a", some (.ref la)), (Str.ofString "at", none)]) := Fr_entry [Str.ofString "at"] F'
  clear F N B X T
  generalize hS : (Stmt.For _ _ _ _ _) = S
  k_steps
  · exfalso
    omega
  · subst hS
    refine For_invV g' rfl rfl ?_ (hE := PassesOwn.never)
    generalize hP : (fun xv s₁ => wpAny _ _ (pyIter xv) _ _ s₁) = P
    k_steps
    subst hP
    rename_i h4 tk4 t1 u1 v1 hr F4 N4 hk4
    refine iter_range_down ns.length (C := []) (rest := news) (fun k m₁ C => C = [] ∧ ∃ at_, m₁ = locOf [(Str.ofString "b", some (.ref lb)), (Str.ofString "a", some (.ref la)), (Str.ofString "at", at_)]) hr (by omega) (by omega) (by omega) F4 N4 (by intro _ _ _ h; cases h) ⟨rfl, none, rfl⟩ ?_ ?_ rfl
    · rintro k tk1 m₂ C₂ rest2 h5 tk5 hk ⟨rfl, at_, rfl⟩ hadr hsub2 hsep3 F5 N5
      simp only [List.nil_append] at N5
      replace F5 : Fr g' L' h5 _ := F5
      replace N5 : News g' L' h5 rest2 := N5
      have hma3 := hsub2 _ hma
      have hmb3 := hsub2 _ hmb
      clear hadr F4 N4 hr hma hmb
      k_steps
      all_goals first | (exfalso; (rename _ ≠ _ => hne); exact hne rfl) | skip
      (rename Fr _ _ _ _ => F6); (rename News _ _ _ _ => N6)
      exact ⟨_, _, _, [], rfl, F6, N6, rfl, rfl, _, by walk_at "loc"⟩
    · rintro m₂ C₂ h5 tk5 ⟨rfl, at_, rfl⟩ hadr F5 N5
      simp only [List.nil_append] at N5
      replace F5 : Fr g' L' h5 _ := F5
      replace N5 : News g' L' h5 news := N5
      clear hadr F4 N4 hr
      dsimp only
      k_steps
      dsimp only
      exact leaveK_ F5 N5 fun kF kN => ret _ _ _ kF kN
end Mine
/-! ## Row -/
namespace Mine
theorem anew_Row : True := by
  w_top off
  exact trivial
local macro_rules | `(tactic| k_mem) => `(tactic| first | (with_reducible assumption) | (refine List.mem_cons_of_mem _ ?_; k_mem))
local macro_rules | `(tactic| walk_at "call builtin:len") => `(tactic| (k_here; (with_reducible show wpAny _ _ (call (Value.builtin "len") [Value.ref _]) _ _ _); k_dflt (refine' len_ints ?k1 ?k2 ?k3 ?k4 ?_; (case k1 => k_asm); (case k2 => k_mem); (case k3 => k_asm); (case k4 => omega); k_whole); intro _ _))
local macro_rules | `(tactic| k_all) => `(tactic| assumption)
local macro_rules | `(tactic| walk_at "loc") => `(tactic| first | exact rfl | exact (locOf_upd rfl).trans rfl | exact (locOf_upd (locOf_upd rfl)).trans rfl | exact (locOf_upd (locOf_upd (locOf_upd rfl))).trans rfl | exact (locOf_upd (locOf_upd (locOf_upd (locOf_upd rfl)))).trans rfl | exact (locOf_upd (locOf_upd (locOf_upd (locOf_upd (locOf_upd rfl))))).trans rfl | exact (locOf_upd (locOf_upd (locOf_upd (locOf_upd (locOf_upd (locOf_upd rfl)))))).trans rfl)

def lRow (D : Addr) (wv : Int) (tw : Tok) (x : Int) (tx : Tok) : List (Str × Option Value) :=
  [(Str.ofString "w", some (.int wv tw)), (Str.ofString "number", some (.int x tx)), (Str.ofString "found", some (.ref D))]
structure RowP (B nv : Int) (K k : Nat) (x : Int) (fs : List Int) : Prop where
  len : fs.length = k
  le : k ≤ K
  limbs : Limbs B fs
  x0 : 0 ≤ x
  x1 : x < B ^ (K - k)
  value : val B fs + x * B ^ k = nv
  top : x = 0 → ∀ h : fs ≠ [], fs.getLast h ≠ 0
theorem rowp_start {B nv : Int} {K : Nat} (hn : 0 ≤ nv) (hK : nv < B ^ K) : RowP B nv K 0 nv [] where
  len := rfl
  le := Nat.zero_le _
  limbs := fun _ h => absurd h List.not_mem_nil
  x0 := hn
  x1 := hK
  value := by simp [val]
  top := fun _ h => absurd rfl h
theorem rowp_step {B nv : Int} (hB : 2 ≤ B) {K k : Nat} {x : Int} {fs : List Int} (h : RowP B nv K k x fs) (hx : 0 < x) : RowP B nv K (k + 1) (x / B) (fs ++ [x % B]) ∧ k < K := by
  have hdv := Int.mul_ediv_add_emod x B
  have hm0 := Int.emod_nonneg x (show B ≠ 0 by omega)
  have hm1 := Int.emod_lt_of_pos x (show 0 < B by omega)
  have hk : k < K := by
    rcases Nat.lt_or_ge k K with h1 | h1
    · exact h1
    · have := h.x1
      rw [show K - k = 0 by omega, Int.pow_zero] at this
      omega
  refine ⟨⟨by rw [List.length_append, h.len]; rfl, hk, ?_, Int.ediv_nonneg h.x0 (by omega), ?_, ?_, ?_⟩, hk⟩
  · intro z hz
    rcases List.mem_append.mp hz with hz | hz
    · exact h.limbs z hz
    · rw [List.mem_singleton.mp hz]; exact ⟨hm0, hm1⟩
  · have e := h.x1
    rw [show K - k = (K - (k + 1)) + 1 by omega, Int.pow_succ] at e
    exact Int.ediv_lt_of_lt_mul (by omega) e
  · rw [val_append, h.len, Int.pow_succ, Int.mul_comm (B ^ k) B, ← Int.mul_assoc]
    have e2 : x % B = x - x / B * B := by rw [Int.mul_comm (x / B) B]; omega
    have hv := h.value
    simp only [val, Int.mul_zero, Int.add_zero]
    rw [e2, Int.mul_sub, Int.mul_comm (B ^ k) x, Int.mul_comm (B ^ k) (x / B * B)]
    omega
  · intro h0 hne
    rw [List.getLast_concat]
    have : B * (x / B) = 0 := by rw [h0]; simp
    omega
theorem rowp_end {B nv : Int} {K k : Nat} {fs : List Int} {x : Int} (h : RowP B nv K k x fs) (hx : ¬ 0 < x) : IsRow B fs nv := by
  have h0 : x = 0 := by have := h.x0; omega
  subst h0
  exact ⟨h.limbs, by have := h.value; omega, h.top rfl⟩
set_option maxRecDepth 100000 in
set_option maxHeartbeats 8000000 in
theorem row_ok (w : World) {p : Program} {loose : List Str} {mean : ExcName → Option Value} {mg mb : Str → Option Value} {dp un : Nat} {gd : Option (List Code)} {cn : Str} {cs : Scope} {a : Addr} {ccd : Value} {cl : List (Str × Addr)} {outer : List Env} {A₀ : Around} {base h₀ : Heap} {L : Addr} {m : Str → Option Value} {news : List (Addr × Obj)} {s : Shared} {Q E : Value → Shared → Prop}
  (B : Below A₀ base outer h₀) (F : Fr h₀ L s.heap m) (X : (Mine.hd.heap_39 w.params).In h₀) (N : News h₀ L s.heap news) (T : Top p loose mean mg mb h₀) (hk : cs.kind = .function) (hd : dp + 1 < recursionLimit) (hu : un + 24 < cLine)
  {nv wv : Int} {tn tw : Tok} (hn : 0 ≤ nv) (hw0 : 0 ≤ wv) (hw : wv ≤ 9) {Bz : Int} (hBz : (2 : Int) ^ wv.toNat = Bz) (hB2 : 2 ≤ Bz) (hB9 : Bz ≤ 512) {K : Nat} (hK : nv < Bz ^ K) (hK2 : K ≤ 300)
  (ret : ∀ r (vs' : List Value) rs n' h' tk', Fr h₀ L h' m → News h₀ L h' ((r, listOf vs'.toArray n') :: news) → (∀ p ∈ news, p.1 < r) → IntsAre vs' rs → IsRow Bz rs nv → Q (.ref r) { s with heap := h', toks := tk' }) :
  wpAny (model PySem.Challenge.rw_nn0001_01.prog w) (ktrTop dp un gd cn cs L a ccd cl outer) (call (.ref 100) [.int nv tn, .int wv tw]) Q E s := by
  refine wpAny_call ?_
  k_dflt (refine' code_def ?k1 ?k2 ?k3 ?k4 ?k5 ?kA ?kF ?kK ?k6 ?k7 ?k8 ?k9 ?kB ?_ ?c2 ?c3 ?c4 ?c5; (case kA => exact rfl); (case kF => exact rfl); (case kK => assumption); (case k1 => k_asm); (case k2 => k_asm); (case k3 => k_asm); (case k4 => k_asm); (case k5 => k_asm); (case k6 => k_is); (case k7 => k_is); (case k8 => ktr_room); (case k9 => exact BindsTo.of_eq (binds := [(Str.ofString "number", .int nv tn), (Str.ofString "w", .int wv tw)]) rfl); (case c5 => decide); (case kB => exact locs rfl); (case c2 => exact rfl); (case c3 => exact rfl); (case c4 => exact rfl); k_whole)
  intro g' L' h' FG' F' N' B' X' T'
  refine wpAny_mono (E := fun _ _ => False) ?_ (fun _ _ x => x) (fun _ _ x => x.elim)
  replace F' : Fr g' L' h' (locOf [(Str.ofString "w", some (.int wv tw)), (Str.ofString "number", some (.int nv tn)), (Str.ofString "found", none)]) := Fr_entry [Str.ofString "found"] F'
  clear F N B X T
  generalize hS : (Stmt.While _ _ _ _) = S
  k_steps
  subst hS
  (rename Fr _ _ _ _ => F1)
  rename_i D _ hD _ N1
  have hsepD : ∀ p ∈ news, p.1 ≠ D := fun p hp => Nat.ne_of_lt (hD p hp)
  refine While_inv2 (n₀ := nv.toNat) (fun nn m₁ C => ∃ k fs vf nf x tx, nn = x.toNat ∧ C = (D, listOf (List.toArray vf) nf) :: news ∧ IntsAre vf fs ∧ RowP Bz nv K k x fs ∧ m₁ = locOf (lRow D wv tw x tx)) F1 N1 ⟨0, [], [], 0, nv, tn, rfl, rfl, .nil, rowp_start hn hK, by walk_at "loc"⟩ ?_ PassesOwn.never
  rintro nn m₃ C₃ h6 tk6 F7 N7 ⟨k, fs, vf, nf, x, tx, rfl, rfl, hif, hI, rfl⟩
  have hl7 := hI.len
  have hl8 := hI.le
  clear F1 N1
  have eM : ∀ x : Int, x.fmod (2 ^ wv.toNat) = x % Bz := by
    intro x
    rw [hBz, Int.fmod_eq_emod_of_nonneg _ (by omega)]
  have eS : ∀ x : Int, x.fdiv (2 ^ wv.toNat) = x / Bz := by
    intro x
    rw [hBz, Int.fdiv_eq_ediv_of_nonneg _ (by omega)]
  k_steps
  · (rename Fr _ _ _ _ => F8); (rename News _ _ _ _ => N8); (rename 0 < x => hx)
    obtain ⟨hs8, hk8⟩ := rowp_step hB2 hI hx
    rw [List.push_toArray, eM] at N8
    rw [eS] at F8
    refine ⟨_, _, _, _, (x / Bz).toNat, rfl, F8, N8, ?_, k + 1, _, _, _, x / Bz, _, rfl, rfl, ints_snoc hif, hs8, by walk_at "loc"⟩
    have h1 : x / Bz < x := Int.ediv_lt_self_of_pos_of_ne_one hx (by omega)
    have h2 := hs8.x0
    omega
  · (rename ¬ 0 < x => hx)
    dsimp only
    exact leaveK_ F7 N7 fun kF kN => ret _ _ _ _ _ _ kF kN hD hif (rowp_end hI hx)
end Mine
/-! ## Sub -/
namespace Mine
theorem anew_Sub : True := by
  w_top off
  exact trivial
local macro_rules | `(tactic| k_mem) => `(tactic| first | (with_reducible assumption) | (refine List.mem_cons_of_mem _ ?_; k_mem))
local macro_rules | `(tactic| walk_at "call builtin:len") => `(tactic| (k_here; (with_reducible show wpAny _ _ (call (Value.builtin "len") [Value.ref _]) _ _ _); k_dflt (refine' len_ints ?k1 ?k2 ?k3 ?k4 ?_; (case k1 => k_asm); (case k2 => k_mem); (case k3 => k_asm); (case k4 => omega); k_whole); intro _ _))
local macro_rules | `(tactic| k_all) => `(tactic| assumption)
local macro_rules | `(tactic| walk_at "loc") => `(tactic| first | exact rfl | exact (locOf_upd rfl).trans rfl | exact (locOf_upd (locOf_upd rfl)).trans rfl | exact (locOf_upd (locOf_upd (locOf_upd rfl))).trans rfl | exact (locOf_upd (locOf_upd (locOf_upd (locOf_upd rfl)))).trans rfl | exact (locOf_upd (locOf_upd (locOf_upd (locOf_upd (locOf_upd rfl))))).trans rfl | exact (locOf_upd (locOf_upd (locOf_upd (locOf_upd (locOf_upd (locOf_upd rfl)))))).trans rfl)
local macro_rules | `(tactic| walk_at "call ref") => `(tactic| (k_here; (with_reducible show wpAny _ _ (call (Value.ref 46) [Value.ref _]) _ _ _); k_dflt (refine' normal_ok _ ?B ?F ?X ?N ?T ?hk ?hd ?hu ?hm ?hi ?hl ?_; (case B => k_asm); (case F => k_asm); (case X => k_asm); (case N => k_asm); (case T => k_asm); (case hk => first | exact rfl | assumption); (case hm => k_mem); (case hi => k_asm); (case hd => ktr_room); (case hu => ktr_units); (case hl => omega); k_whole)))
local macro_rules | `(tactic| walk_at "call ref") => `(tactic| (k_here; (with_reducible show wpAny _ _ (call (Value.ref 53) [Value.ref _, Value.ref _]) _ _ _); k_dflt (refine' compare_ok _ ?B ?F ?X ?N ?T ?hk ?hd ?hu ?hm ?hi ?hm2 ?hi2 ?hl ?_; (case B => k_asm); (case F => k_asm); (case X => k_asm); (case N => k_asm); (case T => k_asm); (case hk => first | exact rfl | assumption); (case hm => k_mem); (case hi => k_asm); (case hm2 => k_mem); (case hi2 => k_asm); (case hd => ktr_room); (case hu => ktr_units); (case hl => omega); k_whole); intro _ _ _ _ _))

def lSub (la lb D : Addr) (wv : Int) (tw : Tok) (tb : Tok) (M : Int) (tM : Tok) (at_ limb : Option Value) : List (Str × Option Value) :=
  [(Str.ofString "w", some (.int wv tw)), (Str.ofString "b", some (.ref lb)), (Str.ofString "a", some (.ref la)), (Str.ofString "found", some (.ref D)), (Str.ofString "borrow", some (.int 0 tb)), (Str.ofString "base", some (.int M tM)), (Str.ofString "at", at_), (Str.ofString "limb", limb)]
theorem trim_zeros (n : Nat) : (List.replicate n (0 : Int)).take (trimZ (List.replicate n 0) (List.replicate n (0 : Int)).length) = [] := by
  have hl : Limbs 2 (List.replicate n (0 : Int)) := by
    intro x hx
    rw [(List.mem_replicate.mp hx).2]
    omega
  have h := trim_row hl
  rw [val_replicate] at h
  exact h.eq (by decide) ⟨fun _ h => absurd h List.not_mem_nil, rfl, fun h => absurd rfl h⟩
set_option maxRecDepth 100000 in
set_option maxHeartbeats 8000000 in
theorem sub_ok (w : World) {p : Program} {loose : List Str} {mean : ExcName → Option Value} {mg mb : Str → Option Value} {dp un : Nat} {gd : Option (List Code)} {cn : Str} {cs : Scope} {a : Addr} {ccd : Value} {cl : List (Str × Addr)} {outer : List Env} {A₀ : Around} {base h₀ : Heap} {L : Addr} {m : Str → Option Value} {news : List (Addr × Obj)} {s : Shared} {Q E : Value → Shared → Prop}
  (B : Below A₀ base outer h₀) (F : Fr h₀ L s.heap m) (X : (Mine.hd.heap_39 w.params).In h₀) (N : News h₀ L s.heap news) (T : Top p loose mean mg mb h₀) (hk : cs.kind = .function) (hd : dp + 2 < recursionLimit) (hu : un + 40 < cLine)
  {la lb : Addr} {va vb : List Value} {ns : List Int} {na nb : Nat} {wv : Int} {tw : Tok} (hma : (la, listOf va.toArray na) ∈ news) (hia : IntsAre va ns) (hmb : (lb, listOf vb.toArray nb) ∈ news) (hib : IntsAre vb ns) (hlen : ns.length ≤ 900) (hw0 : 0 ≤ wv) (hw : wv ≤ 9)
  (ret : ∀ r (vs' : List Value) n' h' tk', Fr h₀ L h' m → News h₀ L h' ((r, listOf vs'.toArray n') :: news) → (∀ p ∈ news, p.1 < r) → IntsAre vs' [] → Q (.ref r) { s with heap := h', toks := tk' }) :
  wpAny (model PySem.Challenge.rw_nn0001_01.prog w) (ktrTop dp un gd cn cs L a ccd cl outer) (call (.ref 67) [.ref la, .ref lb, .int wv tw]) Q E s := by
  refine wpAny_call ?_
  k_dflt (refine' code_def ?k1 ?k2 ?k3 ?k4 ?k5 ?kA ?kF ?kK ?k6 ?k7 ?k8 ?k9 ?kB ?_ ?c2 ?c3 ?c4 ?c5; (case kA => exact rfl); (case kF => exact rfl); (case kK => assumption); (case k1 => k_asm); (case k2 => k_asm); (case k3 => k_asm); (case k4 => k_asm); (case k5 => k_asm); (case k6 => k_is); (case k7 => k_is); (case k8 => ktr_room); (case k9 => exact BindsTo.of_eq (binds := [(Str.ofString "a", .ref la), (Str.ofString "b", .ref lb), (Str.ofString "w", .int wv tw)]) rfl); (case c5 => decide); (case kB => exact locs rfl); (case c2 => exact rfl); (case c3 => exact rfl); (case c4 => exact rfl); k_whole)
  intro g' L' h' FG' F' N' B' X' T'
  refine wpAny_mono (E := fun _ _ => False) ?_ (fun _ _ x => x) (fun _ _ x => x.elim)
  replace F' : Fr g' L' h' (locOf [(Str.ofString "w", some (.int wv tw)), (Str.ofString "b", some (.ref lb)), (Str.ofString "a", some (.ref la)), (Str.ofString "found", none), (Str.ofString "borrow", none), (Str.ofString "base", none), (Str.ofString "at", none), (Str.ofString "limb", none)]) := Fr_entry [Str.ofString "found", Str.ofString "borrow", Str.ofString "base", Str.ofString "at", Str.ofString "limb"] F'
  clear F N B X T
  generalize hS : (Stmt.For _ _ _ _ _) = S
  k_steps
  subst hS
  rename_i _ _ _ tb D _ hD T _ _ _ _ _ _ F3 N3
  have N2 : News g' L' _ ((D, listOf (List.toArray []) 0) :: news) := fun p hp => N3 p (by
    rcases List.mem_cons.mp hp with rfl | hp
    · exact List.mem_cons_of_mem _ (List.mem_cons_self ..)
    · exact List.mem_cons_of_mem _ (List.mem_cons_of_mem _ hp))
  clear N3
  generalize hM : (1 * 2 ^ wv.toNat : Int) = M at F3
  refine For_invV g' rfl rfl ?_ (hE := PassesOwn.never)
  generalize hP : (fun xv s₁ => wpAny _ _ (pyIter xv) _ _ s₁) = P
  k_steps
  subst hP
  rename_i h4 tk4 t1 u1 v1 hr F4 N4 hk4
  have hsep2 := off_one (o := listOf (List.toArray []) 0) hD
  refine iter_range_one ns.length (C := [(D, listOf (List.toArray []) 0)]) (rest := news) (fun k m₁ C => ∃ vf nf tb tM at_ limb, C = [(D, listOf (List.toArray vf) nf)] ∧ IntsAre vf (List.replicate k 0) ∧ m₁ = locOf (lSub la lb D wv tw tb M tM at_ limb)) hr (by omega) (by omega) (by omega) (by omega) (by omega) F4 N4 hsep2 ?_ ?_ ?_ rfl
  · exact ⟨[], 0, _, _, none, none, rfl, .nil, by walk_at "loc"⟩
  · rintro k tk1 m₂ C₂ rest2 h5 tk5 hk ⟨vf, nf, tb, tM, at_, limb, rfl, hif, rfl⟩ hadr hsub2 hsep3 F5 N5
    simp only [List.cons_append, List.nil_append] at N5
    replace F5 : Fr g' L' h5 _ := F5
    replace N5 : News g' L' h5 ((D, listOf vf.toArray nf) :: rest2) := N5
    have hsepD2 : ∀ p ∈ rest2, p.1 ≠ D := fun p hp => hsep3 p hp D (List.mem_singleton.mpr rfl)
    have hma3 := hsub2 _ hma
    have hmb3 := hsub2 _ hmb
    have hl5 : (List.replicate k (0 : Int)).length = k := List.length_replicate
    clear hadr F4 N4 hr
    k_steps
    (rename Fr _ _ _ _ => F6); (rename News _ _ _ _ => N6)
    rw [List.push_toArray, show ns.getD (0 + (k : Int)).toNat 0 - 0 - ns.getD (0 + (k : Int)).toNat 0 = 0 by omega] at N6
    exact ⟨_, _, _, [(D, _)], rfl, F6, N6, rfl, _, _, _, _, _, _, rfl, by rw [List.replicate_succ']; exact ints_snoc hif, by walk_at "loc"⟩
  · rintro m₂ C₂ h5 tk5 ⟨vf, nf, tb, tM, at_, limb, rfl, hif, rfl⟩ hadr F5 N5
    simp only [List.cons_append, List.nil_append] at N5
    replace F5 : Fr g' L' h5 _ := F5
    replace N5 : News g' L' h5 ((D, listOf vf.toArray nf) :: news) := N5
    have hl5 : (List.replicate ns.length (0 : Int)).length = ns.length := List.length_replicate
    clear hadr F4 N4 hr
    dsimp only
    k_steps
    rename_i r vs' h6 tk6 F6 N6 l6 hi6
    refine leaveK_ F6 N6 fun kF kN => ret _ vs' 0 _ _ kF (fun p hp => kN p ?_) (fun p hp => l6 p (List.mem_cons_of_mem _ hp)) ?_
    · rcases List.mem_cons.mp hp with rfl | hp
      · exact List.mem_cons_self ..
      · exact List.mem_cons_of_mem _ (List.mem_cons_of_mem _ hp)
    · rw [trim_zeros] at hi6
      exact hi6
end Mine
/-! ## Draw -/
namespace Mine
theorem anew_Draw : True := by
  w_top off
  exact trivial
local macro_rules | `(tactic| k_mem) => `(tactic| first | (with_reducible assumption) | (refine List.mem_cons_of_mem _ ?_; k_mem))
local macro_rules | `(tactic| walk_at "call builtin:len") => `(tactic| (k_here; (with_reducible show wpAny _ _ (call (Value.builtin "len") [Value.ref _]) _ _ _); k_dflt (refine' len_ints ?k1 ?k2 ?k3 ?k4 ?_; (case k1 => k_asm); (case k2 => k_mem); (case k3 => k_asm); (case k4 => omega); k_whole); intro _ _))
local macro_rules | `(tactic| k_all) => `(tactic| assumption)
local macro_rules | `(tactic| walk_at "loc") => `(tactic| first | exact rfl | exact (locOf_upd rfl).trans rfl | exact (locOf_upd (locOf_upd rfl)).trans rfl | exact (locOf_upd (locOf_upd (locOf_upd rfl))).trans rfl | exact (locOf_upd (locOf_upd (locOf_upd (locOf_upd rfl)))).trans rfl | exact (locOf_upd (locOf_upd (locOf_upd (locOf_upd (locOf_upd rfl))))).trans rfl | exact (locOf_upd (locOf_upd (locOf_upd (locOf_upd (locOf_upd (locOf_upd rfl)))))).trans rfl)

def poolO (g : Addr) (i z : Int) (ti tz : Tok) (n : Nat) : Obj := listOf [Value.ref g, Value.int i ti, Value.int z tz].toArray n
set_option maxRecDepth 100000 in
set_option maxHeartbeats 8000000 in
theorem draw_ok (w : World) {p : Program} {loose : List Str} {mean : ExcName → Option Value} {mg mb : Str → Option Value} {dp un : Nat} {gd : Option (List Code)} {cn : Str} {cs : Scope} {a : Addr} {ccd : Value} {cl : List (Str × Addr)} {outer : List Env} {A₀ : Around} {base h₀ : Heap} {L : Addr} {m : Str → Option Value} {rest : List (Addr × Obj)} {pl g : Addr} {i z : Int} {ti tz : Tok} {n : Nat} {s : Shared} {Q E : Value → Shared → Prop}
  (B : Below A₀ base outer h₀) (F : Fr h₀ L s.heap m) (X : (Mine.hd.heap_39 w.params).In h₀) (N : News h₀ L s.heap ((pl, poolO g i z ti tz n) :: rest)) (T : Top p loose mean mg mb h₀) (hk : cs.kind = .function) (hd : dp + 1 < recursionLimit) (hu : un + 24 < cLine)
  {vg : List Value} {gs : List Int} {ng : Nat} (hoff : ∀ p ∈ rest, p.1 ≠ pl) (hg : (g, listOf vg.toArray ng) ∈ rest) (hig : IntsAre vg gs) (hglen : gs.length ≤ 1000) (hi0 : 0 ≤ i) (hi1 : i ≤ 1000) (hz0 : 0 ≤ z)
  {mv : Int} {tm : Tok} (hm0 : 0 < mv)
  (ret : ∀ d td i' z' ti' tz' n' h' tk', 0 ≤ d → d < mv → 0 ≤ i' → i' ≤ 1000 → 0 ≤ z' → Fr h₀ L h' m → News h₀ L h' ((pl, poolO g i' z' ti' tz' n') :: rest) → Q (.int d td) { s with heap := h', toks := tk' }) :
  wpAny (model PySem.Challenge.rw_nn0001_01.prog w) (ktrTop dp un gd cn cs L a ccd cl outer) (call (.ref 88) [.ref pl, .int mv tm]) Q E s := by
  refine wpAny_call ?_
  k_dflt (refine' code_def ?k1 ?k2 ?k3 ?k4 ?k5 ?kA ?kF ?kK ?k6 ?k7 ?k8 ?k9 ?kB ?_ ?c2 ?c3 ?c4 ?c5; (case kA => exact rfl); (case kF => exact rfl); (case kK => assumption); (case k1 => k_asm); (case k2 => k_asm); (case k3 => k_asm); (case k4 => k_asm); (case k5 => k_asm); (case k6 => k_is); (case k7 => k_is); (case k8 => ktr_room); (case k9 => exact BindsTo.of_eq (binds := [(Str.ofString "pool", .ref pl), (Str.ofString "many", .int mv tm)]) rfl); (case c5 => decide); (case kB => exact locs rfl); (case c2 => exact rfl); (case c3 => exact rfl); (case c4 => exact rfl); k_whole)
  intro g' L' h' FG' F' N' B' X' T'
  refine wpAny_mono (E := fun _ _ => False) ?_ (fun _ _ x => x) (fun _ _ x => x.elim)
  replace F' : Fr g' L' h' (locOf [(Str.ofString "many", some (.int mv tm)), (Str.ofString "pool", some (.ref pl))]) := Fr_entry [] F'
  clear F N B X T
  unfold poolO at N'
  k_steps
  · (rename Fr _ _ _ _ => F5); (rename News _ _ _ _ => N5); (rename i < (gs.length : Int) => hc)
    dsimp only
    rw [Int.fmod_eq_emod_of_nonneg _ (by omega)]
    exact leaveK_ F5 N5 fun kF kN => ret _ _ _ _ _ _ _ _ _ (Int.emod_nonneg _ (by omega)) (Int.emod_lt_of_pos _ hm0) (by omega) (by omega) hz0 kF kN
  · (rename Fr _ _ _ _ => F5); (rename News _ _ _ _ => N5); (rename ¬ i < (gs.length : Int) => hc)
    dsimp only
    rw [Int.fmod_eq_emod_of_nonneg _ (by omega)]
    exact leaveK_ F5 N5 fun kF kN => ret _ _ _ _ _ _ _ _ _ (Int.emod_nonneg _ (by omega)) (Int.emod_lt_of_pos _ hm0) hi0 hi1 (by rw [Int.fmod_eq_emod_of_nonneg _ (by decide)]; exact Int.emod_nonneg _ (by decide)) kF kN
end Mine
/-! ## LedAt -/
namespace Mine
/-- the ledger bears o at d, alone; f puts another in its place -/
inductive LedAt (d : Addr) (o : Obj) : Led → (Obj → Led) → Prop
  | head {r : Led} : (∀ p ∈ r, p.1 ≠ d) → LedAt d o ((d, o) :: r) (fun o' => (d, o') :: r)
  | tail {p : Addr × Obj} {r : Led} {f : Obj → Led} : p.1 ≠ d → LedAt d o r f → LedAt d o (p :: r) (fun o' => p :: f o')
theorem LedAt.split {d : Addr} {o : Obj} {l : Led} {f : Obj → Led} (u : LedAt d o l f) : ∃ rest : Led, (∀ p ∈ rest, p.1 ≠ d) ∧ (∀ p, p ∈ l ↔ p ∈ (d, o) :: rest) ∧ ∀ o' p, p ∈ f o' ↔ p ∈ (d, o') :: rest := by
  induction u with
  | head h => exact ⟨_, h, fun _ => Iff.rfl, fun _ _ => Iff.rfl⟩
  | @tail p r f h _ ih =>
    obtain ⟨rest, h1, h2, h3⟩ := ih
    have swap : ∀ (a b q : Addr × Obj) (l : Led), q ∈ a :: b :: l ↔ q ∈ b :: a :: l := by
      intro a b q l
      simp only [List.mem_cons]
      constructor
      · rintro (h | h | h)
        · exact .inr (.inl h)
        · exact .inl h
        · exact .inr (.inr h)
      · rintro (h | h | h)
        · exact .inr (.inl h)
        · exact .inl h
        · exact .inr (.inr h)
    refine ⟨p :: rest, ?_, ?_, ?_⟩
    · intro q hq
      rcases List.mem_cons.mp hq with rfl | hq
      · exact h
      · exact h1 q hq
    · intro q
      rw [List.mem_cons, h2 q, ← List.mem_cons (b := p), swap]
    · intro o' q
      rw [List.mem_cons, h3 o' q, ← List.mem_cons (b := p), swap]
theorem not_pool {g : Addr} {i z : Int} {ti tz : Tok} {n ng : Nat} {vg : List Value} {gs : List Int} (hi : IntsAre vg gs) : listOf vg.toArray ng ≠ poolO g i z ti tz n := by
  intro e
  unfold poolO at e
  have e2 : vg.toArray = [Value.ref g, Value.int i ti, Value.int z tz].toArray := by
    have := congrArg Obj.data e
    injection this
  have e3 : vg = [Value.ref g, Value.int i ti, Value.int z tz] := by simpa using congrArg Array.toList e2
  subst e3
  cases hi
end Mine
/-! ## Draw2 -/
namespace Mine
theorem draw_ok2 (w : World) {p : Program} {loose : List Str} {mean : ExcName → Option Value} {mg mb : Str → Option Value} {dp un : Nat} {gd : Option (List Code)} {cn : Str} {cs : Scope} {a : Addr} {ccd : Value} {cl : List (Str × Addr)} {outer : List Env} {A₀ : Around} {base h₀ : Heap} {L : Addr} {m : Str → Option Value} {led : Led} {f : Obj → Led} {pl g : Addr} {i z : Int} {ti tz : Tok} {n : Nat} {s : Shared} {Q E : Value → Shared → Prop}
  (B : Below A₀ base outer h₀) (F : Fr h₀ L s.heap m) (X : (Mine.hd.heap_39 w.params).In h₀) (N : News h₀ L s.heap led) (T : Top p loose mean mg mb h₀) (hk : cs.kind = .function) (hd : dp + 1 < recursionLimit) (hu : un + 24 < cLine)
  (U : LedAt pl (poolO g i z ti tz n) led f) {vg : List Value} {gs : List Int} {ng : Nat} (hg : (g, listOf vg.toArray ng) ∈ led) (hig : IntsAre vg gs) (hglen : gs.length ≤ 1000) (hi0 : 0 ≤ i) (hi1 : i ≤ 1000) (hz0 : 0 ≤ z)
  {mv : Int} {tm : Tok} (hm0 : 0 < mv)
  (ret : ∀ d td i' z' ti' tz' n' h' tk', 0 ≤ d → d < mv → 0 ≤ i' → i' ≤ 1000 → 0 ≤ z' → Fr h₀ L h' m → News h₀ L h' (f (poolO g i' z' ti' tz' n')) → Q (.int d td) { s with heap := h', toks := tk' }) :
  wpAny (model PySem.Challenge.rw_nn0001_01.prog w) (ktrTop dp un gd cn cs L a ccd cl outer) (call (.ref 88) [.ref pl, .int mv tm]) Q E s := by
  obtain ⟨rest, h1, h2, h3⟩ := U.split
  have N2 : News h₀ L s.heap ((pl, poolO g i z ti tz n) :: rest) := fun p hp => N p ((h2 p).mpr hp)
  have hg2 : (g, listOf vg.toArray ng) ∈ rest := by
    rcases List.mem_cons.mp ((h2 _).mp hg) with e | e
    · exact absurd (congrArg Prod.snd e) (not_pool hig)
    · exact e
  refine draw_ok w B F X N2 T hk hd hu h1 hg2 hig hglen hi0 hi1 hz0 hm0 fun d td i' z' ti' tz' n' h' tk' q1 q2 q3 q4 q5 F' N' => ret d td i' z' ti' tz' n' h' tk' q1 q2 q3 q4 q5 F' fun p hp => N' p ((h3 _ p).mp hp)
end Mine
/-! ## Number -/
namespace Mine
theorem anew_Number : True := by
  w_top off
  exact trivial
local macro_rules | `(tactic| k_mem) => `(tactic| first | (with_reducible assumption) | (refine List.mem_cons_of_mem _ ?_; k_mem))
local macro_rules | `(tactic| walk_at "call builtin:len") => `(tactic| (k_here; (with_reducible show wpAny _ _ (call (Value.builtin "len") [Value.ref _]) _ _ _); k_dflt (refine' len_ints ?k1 ?k2 ?k3 ?k4 ?_; (case k1 => k_asm); (case k2 => k_mem); (case k3 => k_asm); (case k4 => omega); k_whole); intro _ _))
local macro_rules | `(tactic| k_all) => `(tactic| assumption)
local macro_rules | `(tactic| walk_at "loc") => `(tactic| first | exact rfl | exact (locOf_upd rfl).trans rfl | exact (locOf_upd (locOf_upd rfl)).trans rfl | exact (locOf_upd (locOf_upd (locOf_upd rfl))).trans rfl | exact (locOf_upd (locOf_upd (locOf_upd (locOf_upd rfl)))).trans rfl | exact (locOf_upd (locOf_upd (locOf_upd (locOf_upd (locOf_upd rfl))))).trans rfl | exact (locOf_upd (locOf_upd (locOf_upd (locOf_upd (locOf_upd (locOf_upd rfl)))))).trans rfl)
local macro_rules | `(tactic| walk_at "ledAt") => `(tactic| first | (refine' LedAt.head ?a; (case a => k_all)) | (refine' LedAt.tail ?a ?b; (case a => k_ne); (case b => walk_at "ledAt")))
local macro_rules | `(tactic| walk_at "call ref") => `(tactic| (k_here; (with_reducible show wpAny _ _ (call (Value.ref 88) [Value.ref _, Value.int _ _]) _ _ _); k_dflt (refine' draw_ok2 _ ?B ?F ?X ?N ?T ?hk ?hd ?hu ?U ?hg ?hig ?hgl ?hi0 ?hi1 ?hz0 ?hm0 ?_; (case B => k_asm); (case F => k_asm); (case X => k_asm); (case N => k_asm); (case T => k_asm); (case hk => first | exact rfl | assumption); (case U => walk_at "ledAt"); (case hg => k_mem); (case hig => k_asm); (case hgl => k_asm); (case hi0 => k_asm); (case hi1 => k_asm); (case hz0 => k_asm); (case hd => ktr_room); (case hu => ktr_units); (case hm0 => first | assumption | omega); k_whole); intro d' td' i' z' ti' tz' n' h' tk' hd0' hd1' hi0' hi1' hz0' F' N'; (try dsimp only at N'); (try k_sweep)))

theorem num_step {B f x : Int} {k : Nat} (hB : 0 < B) (h0 : 0 ≤ f) (h1 : f < B ^ k) (hx : 0 ≤ x ∧ x < B) : 0 ≤ f * B + x ∧ f * B + x < B ^ (k + 1) := by
  have h2 : 0 ≤ f * B := Int.mul_nonneg h0 (by omega)
  have h3 : (f + 1) * B ≤ B ^ k * B := Int.mul_le_mul_of_nonneg_right (by omega) (by omega)
  rw [Int.add_mul, Int.one_mul] at h3
  rw [Int.pow_succ]
  omega
theorem pow_mono {B f : Int} {a b : Nat} (hB : 2 ≤ B) (h : f < B ^ a) (hab : a ≤ b) : f < B ^ b := by
  have e : B ^ b = B ^ a * B ^ (b - a) := by rw [← Int.pow_add]; congr 1; omega
  have h1 : 0 < B ^ (b - a) := Int.pow_pos (by omega)
  have h2 : 0 < B ^ a := Int.pow_pos (by omega)
  have h3 : B ^ a * 1 ≤ B ^ a * B ^ (b - a) := Int.mul_le_mul_of_nonneg_left (by omega) (by omega)
  omega
def lNum (pl : Addr) (wv : Int) (tw : Tok) (mo : Int) (tmo : Tok) (f : Int) (tf : Tok) (turn limb : Option Value) : List (Str × Option Value) :=
  [(Str.ofString "most", some (.int mo tmo)), (Str.ofString "w", some (.int wv tw)), (Str.ofString "pool", some (.ref pl)), (Str.ofString "found", some (.int f tf)), (Str.ofString "turn", turn), (Str.ofString "limb", limb)]
set_option maxRecDepth 100000 in
set_option maxHeartbeats 8000000 in
theorem number_ok (w : World) {p : Program} {loose : List Str} {mean : ExcName → Option Value} {mg mb : Str → Option Value} {dp un : Nat} {gd : Option (List Code)} {cn : Str} {cs : Scope} {a : Addr} {ccd : Value} {cl : List (Str × Addr)} {outer : List Env} {A₀ : Around} {base h₀ : Heap} {L : Addr} {m : Str → Option Value} {rest : Led} {pl g : Addr} {i z : Int} {ti tz : Tok} {n : Nat} {s : Shared} {Q E : Value → Shared → Prop}
  (B : Below A₀ base outer h₀) (F : Fr h₀ L s.heap m) (X : (Mine.hd.heap_39 w.params).In h₀) (N : News h₀ L s.heap ((pl, poolO g i z ti tz n) :: rest)) (T : Top p loose mean mg mb h₀) (hk : cs.kind = .function) (hd : dp + 2 < recursionLimit) (hu : un + 40 < cLine)
  (hoff : ∀ p ∈ rest, p.1 ≠ pl) {vg : List Value} {gs : List Int} {ng : Nat} (hg : (g, listOf vg.toArray ng) ∈ rest) (hig : IntsAre vg gs) (hglen : gs.length ≤ 1000) (hi0 : 0 ≤ i) (hi1 : i ≤ 1000) (hz0 : 0 ≤ z)
  {wv : Int} {tw : Tok} (hw0 : 1 ≤ wv) (hw : wv ≤ 9) {Bz : Int} (hBz : (2 : Int) ^ wv.toNat = Bz) (hB2 : 2 ≤ Bz) (hB9 : Bz ≤ 512) {mo : Int} {tmo : Tok} (hmo0 : 0 ≤ mo) (hmo1 : mo ≤ 100)
  (ret : ∀ d td i' z' ti' tz' n' h' tk', 0 ≤ d → d < Bz ^ mo.toNat → 0 ≤ i' → i' ≤ 1000 → 0 ≤ z' → Fr h₀ L h' m → News h₀ L h' ((pl, poolO g i' z' ti' tz' n') :: rest) → Q (.int d td) { s with heap := h', toks := tk' }) :
  wpAny (model PySem.Challenge.rw_nn0001_01.prog w) (ktrTop dp un gd cn cs L a ccd cl outer) (call (.ref 112) [.ref pl, .int wv tw, .int mo tmo]) Q E s := by
  refine wpAny_call ?_
  k_dflt (refine' code_def ?k1 ?k2 ?k3 ?k4 ?k5 ?kA ?kF ?kK ?k6 ?k7 ?k8 ?k9 ?kB ?_ ?c2 ?c3 ?c4 ?c5; (case kA => exact rfl); (case kF => exact rfl); (case kK => assumption); (case k1 => k_asm); (case k2 => k_asm); (case k3 => k_asm); (case k4 => k_asm); (case k5 => k_asm); (case k6 => k_is); (case k7 => k_is); (case k8 => ktr_room); (case k9 => exact BindsTo.of_eq (binds := [(Str.ofString "pool", .ref pl), (Str.ofString "w", .int wv tw), (Str.ofString "most", .int mo tmo)]) rfl); (case c5 => decide); (case kB => exact locs rfl); (case c2 => exact rfl); (case c3 => exact rfl); (case c4 => exact rfl); k_whole)
  intro g' L' h' FG' F' N' B' X' T'
  refine wpAny_mono (E := fun _ _ => False) ?_ (fun _ _ x => x) (fun _ _ x => x.elim)
  replace F' : Fr g' L' h' (locOf [(Str.ofString "most", some (.int mo tmo)), (Str.ofString "w", some (.int wv tw)), (Str.ofString "pool", some (.ref pl)), (Str.ofString "found", none), (Str.ofString "turn", none), (Str.ofString "limb", none)]) := Fr_entry [Str.ofString "found", Str.ofString "turn", Str.ofString "limb"] F'
  clear F N B X T
  generalize hS : (Stmt.For _ _ _ _ _) = S
  k_steps
  subst hS
  (rename Fr _ _ _ _ => F1); (rename News _ _ _ _ => N1)
  refine For_invV g' rfl rfl ?_ (hE := PassesOwn.never)
  generalize hP : (fun xv s₁ => wpAny _ _ (pyIter xv) _ _ s₁) = P
  k_steps
  subst hP
  rename_i d0 td0 i0 z0 ti0 tz0 n0 _ _ hd00 hd01 hi00 hi01 hz00 _ _ h4 tk4 t1 u1 v1 hr F4 N4 hk4
  have hsep2 : ∀ p ∈ rest, ∀ a ∈ ([(pl, poolO g i0 z0 ti0 tz0 n0)] : Led).map (·.1), p.1 ≠ a := fun p hp a ha => by rw [List.mem_singleton.mp ha]; exact hoff p hp
  refine iter_range_one d0.toNat (C := [(pl, poolO g i0 z0 ti0 tz0 n0)]) (rest := rest) (fun k m₁ C => ∃ f tf i z ti tz n turn limb, C = [(pl, poolO g i z ti tz n)] ∧ 0 ≤ i ∧ i ≤ 1000 ∧ 0 ≤ z ∧ 0 ≤ f ∧ f < Bz ^ k ∧ m₁ = locOf (lNum pl wv tw mo tmo f tf turn limb)) hr (by omega) (by omega) (by omega) (by omega) (by omega) F4 N4 hsep2 ?_ ?_ ?_ rfl
  · exact ⟨0, _, i0, z0, _, _, _, none, none, rfl, hi00, hi01, hz00, Int.le_refl _, by rw [Int.pow_zero]; decide, by walk_at "loc"⟩
  · rintro k tk1 m₂ C₂ rest2 h5 tk5 hk ⟨f, tf, i, z, ti, tz, n, turn, limb, rfl, hi0, hi1, hz0, hf0, hf1, rfl⟩ hadr hsub2 hsep3 F5 N5
    simp only [List.cons_append, List.nil_append] at N5
    replace F5 : Fr g' L' h5 _ := F5
    replace N5 : News g' L' h5 ((pl, poolO g i z ti tz n) :: rest2) := N5
    have hsepD2 : ∀ p ∈ rest2, p.1 ≠ pl := fun p hp => hsep3 p hp pl (List.mem_singleton.mpr rfl)
    have hg3 := hsub2 _ hg
    have hBp : (0 : Int) < 2 ^ wv.toNat := by rw [hBz]; omega
    clear hadr F4 N4 hr
    k_steps
    rename_i d1 td1 i1 z1 ti1 tz1 n1 _ _ hd10 hd11 _ _ _ l1 _ _ d2 td2 i2 z2 ti2 tz2 n2 _ _ hd20 hd21 hi20 hi21 hz20 _ _ _ F6 N6
    have hL : Limbs Bz [0, 2 ^ wv.toNat - 1, 1, d1, 2 ^ wv.toNat - 1, 2 ^ (wv - 1).toNat] := by
      have e1 : (2 : Int) ^ (wv - 1).toNat * 2 = Bz := by
        rw [← hBz, show wv.toNat = (wv - 1).toNat + 1 by omega, Int.pow_succ]
      have e2 : (0 : Int) < 2 ^ (wv - 1).toNat := Int.pow_pos (by decide)
      rw [hBz] at hd11 ⊢
      intro x hx
      simp only [List.mem_cons, List.not_mem_nil, or_false] at hx
      omega
    have hx := limbs_getD (by omega) hL d2.toNat
    generalize [0, 2 ^ wv.toNat - 1, 1, d1, 2 ^ wv.toNat - 1, 2 ^ (wv - 1).toNat].getD d2.toNat 0 = x at F6 hx
    rw [hBz] at F6
    have hs := num_step (by omega) hf0 hf1 hx
    refine ⟨_, _, _, [(pl, _)], rfl, F6, fun p hp => N6 p (List.mem_cons_of_mem _ hp), rfl, f * Bz + x, _, i2, z2, _, _, _, _, _, rfl, hi20, hi21, hz20, hs.1, hs.2, by walk_at "loc"⟩
  · rintro m₂ C₂ h5 tk5 ⟨f, tf, i, z, ti, tz, n, turn, limb, rfl, hi0, hi1, hz0, hf0, hf1, rfl⟩ hadr F5 N5
    simp only [List.cons_append, List.nil_append] at N5
    replace F5 : Fr g' L' h5 _ := F5
    replace N5 : News g' L' h5 ((pl, poolO g i z ti tz n) :: rest) := N5
    clear hadr F4 N4 hr
    dsimp only
    k_steps
    dsimp only
    exact leaveK_ F5 N5 fun kF kN => ret _ _ _ _ _ _ _ _ _ hf0 (pow_mono hB2 hf1 (by omega)) hi0 hi1 hz0 kF kN
end Mine
/-! ## Comp -/
namespace Mine
section
variable {prog : Program} {w : World} {A : Around} {E : Value → Shared → Prop} {s : Shared} {env : Env} {h₀ : Heap} {L l : Addr} {m : Loc} {news : Led} {vs : List Value} {ns : List Int} {c0 : Nat}

/-- what the comprehension's element may do: reckon an int -/
def EltEnd (s₁ : Shared) (z : Int) (y : Value) (s₂ : Shared) : Prop := ∃ t tk, y = .int z t ∧ s₂ = { s₁ with toks := tk }

/-- [elt for a, b in enumerate(l)], an int each -/
theorem comp_enum (g : Nat → Int → Int) {elt iter : PySem.Expr} {a b : Str} {pa pb tp : Pos} {kk : Nat} {scope : Scope} {cl : List (Str × Addr)} {pos : Pos} {Q : Value → Shared → Prop}
    (hh : A.handled = none) (hclos : closureFor scope env = pure cl) (hcell : ∀ y ∈ scope.names, y.2 ≠ .cell) (hkind : scope.kind = .function)
    (hnames : ∀ y ∈ scope.names, y.2 = .local → scope.names.lookup y.1 = some .local) (hxa : scope.names.lookup a = some .local) (hxb : scope.names.lookup b = some .local) (hab : ¬ a = b)
    (hs : ∀ x, foldedSetIterable iter env x = pure x) (hi : IntsAre vs ns) (hz : ns.length ≤ 1000)
    (h : wpAny (model prog w) A (eval iter env) (fun xv s₁ => ∃ e it, xv = .ref e ∧ IsEnum s₁.heap e it 0 .none ∧ s₁.heap.IsListIter it l 0 ∧ (l, listOf vs.toArray c0) ∈ news ∧ Fr h₀ L s₁.heap m ∧ News h₀ L s₁.heap news ∧
      e ≠ it ∧ l ≠ e ∧ l ≠ it ∧ L ≠ e ∧ L ≠ it ∧ h₀.get? e = none ∧ h₀.get? it = none ∧ (∀ p ∈ news, p.1 ≠ e ∧ p.1 ≠ it) ∧
      (∀ (i : Nat) t t' C oC m₂ hp tk (E' : Value → Shared → Prop), i < ns.length → LCg.NsObj oC m₂ → m₂ a = some (.int (i : Int) t) → m₂ b = some (.int (ns.getD i 0) t') → Fr h₀ L hp m → News h₀ L hp ((C, oC) :: news) →
        wpAny (model prog w) A (eval elt (compEnvC scope cl C env)) (EltEnd { s₁ with heap := hp, toks := tk } (g i (ns.getD i 0))) E' { s₁ with heap := hp, toks := tk }) ∧
      (∀ D ys hp tk, Fr h₀ L hp m → News h₀ L hp ((D, LCg.lst ys) :: news) → IntsAre ys ((List.range ns.length).map fun i => g i (ns.getD i 0)) → Q (.ref D) { s₁ with heap := hp, toks := tk })) E s) :
    wpAny (model prog w) A (eval (.ListComp elt [⟨.Tuple [.Name a pa, .Name b pb] kk tp, iter, [], 0⟩] scope pos) env) Q E s := by
  rw [eval_ListComp]
  refine wpAny_comprehension_free (use := none) rfl hs hclos hkind hnames (wpAny_mono h (fun xv s₁ h₁ => ?_) fun _ _ e => e)
  obtain ⟨e, it, rfl, he, hit, hm, F, N, hei, hle, hli, hLe, hLi, he₀, hi₀, hoff, turn, fin⟩ := h₁
  refine wpAny_pyIter_enum he ?_
  refine wpAny_newObj_type (wpAny_newFunctionEnv hcell (by intro y hy; simp at hy) (fun h₁ hns₁ hsb₁ => ?_) hkind)
  dsimp only at hns₁ hsb₁ ⊢
  generalize hH2 : s₁.heap.push { cls := .type "list", dict := none, data := .seq ([] : List Value).toArray } = H2 at hns₁ hsb₁ ⊢
  have hC : H2.objs.size = s₁.heap.objs.size + 1 := by rw [← hH2, Heap.size_push]
  generalize hDe : s₁.heap.objs.size = D at hC
  generalize hCe : H2.objs.size = C at hC hns₁ hsb₁
  have below : ∀ b, @LT.lt Nat _ b D → b ≠ C ∧ b ≠ D := fun b hb => ⟨by rw [hC]; exact Nat.ne_of_lt (Nat.lt_succ_of_lt hb), Nat.ne_of_lt hb⟩
  have hDC : D ≠ C := by rw [hC]; exact Nat.ne_of_lt (Nat.lt_succ_self _)
  have hDleC : @LE.le Nat _ D C := by rw [hC]; exact Nat.le_succ _
  have lt1 : ∀ b o, s₁.heap.get? b = some o → @LT.lt Nat _ b D := fun b o e => hDe ▸ Heap.lt_size e
  have old : ∀ b o, s₁.heap.get? b = some o → h₁.get? b = some o := fun b o e => hsb₁.extBut b o (below b (lt1 b o e)).1 (Heap.get?_push_of_some _ (hH2 ▸ Heap.get?_push_of_some _ e))
  have hacc : h₁.get? D = some (LCg.lst []) := hsb₁.extBut _ _ hDC (Heap.get?_push_of_some _ (hH2 ▸ hDe ▸ Heap.get?_push_size _ rfl))
  have fresh₀ : ∀ a, @LE.le Nat _ D a → h₀.get? a = none := fun a ha => by
    cases q : h₀.get? a with
    | none => rfl
    | some o' => exact absurd (lt1 a o' (F.keep a o' q)) (Nat.not_lt.mpr ha)
  have hD₀ : h₀.get? D = none := fresh₀ D (Nat.le_refl _)
  have hC₀ : h₀.get? C = none := fresh₀ C hDleC
  have hLlt : @LT.lt Nat _ L D := hDe ▸ F.ns.lt
  have helt : @LT.lt Nat _ e D := lt1 e _ he
  have hilt : @LT.lt Nat _ it D := by obtain ⟨_, q, _⟩ := hit; exact lt1 it _ q
  have hllt : @LT.lt Nat _ l D := lt1 l _ (N _ hm).1
  have nlt : ∀ p ∈ news, @LT.lt Nat _ p.1 D := fun p hp => lt1 _ _ (N p hp).1
  have W := KTurns.ofWalksU (elts := [.Name a pa, .Name b pb]) (k := kk) (pos := tp) (WalksT.enumerate (prog := prog) (w := w) hh e it l hei hle hli vs.toArray).toU
  have hsize : vs.toArray.size = ns.length := by rw [List.size_toArray, hi.length]
  have loop : ∀ s₃ : Shared, s₃ = { s₁ with heap := h₁, toks := s₁.toks + ([] : List (Str × Value)).length } →
      codeAny (model prog w) A (.compLoop (.ListComp elt [⟨.Tuple [.Name a pa, .Name b pb] kk tp, iter, [], 0⟩] scope pos) 0 (.ref e) (.ref D) (compEnvC scope cl C env))
        (compPost (model prog w) A E none Q (.ref D) C) s₃ := by
    rintro s₃ rfl
    refine kcp_loop
      (fun k s' => ∃ h' tk i ys m', s' = { s₁ with heap := h', toks := tk } ∧ i ≤ ns.length ∧ k = ns.length + 1 - i ∧ IntsAre ys ((List.range i).map fun j => g j (ns.getD j 0)) ∧
        ((∃ old, IsEnum h' e it i old) ∧ h'.IsListIter it l i ∧ h'.IsList l vs.toArray) ∧ h'.get? D = some (LCg.lst ys) ∧ h'.Ns C m' ∧ Fr h₀ L h' m ∧ News h₀ L h' news) ?_ (ns.length + 1)
      ⟨h₁, _, 0, [], _, rfl, Nat.zero_le _, rfl, .nil, ⟨⟨.none, old _ _ he⟩, hit.at fun o q => old it o q, ⟨_, old _ _ (N _ hm).1, rfl, c0, rfl⟩⟩, hacc, hns₁, F.keeps old, fun p hp => ⟨old _ _ (N p hp).1, (N p hp).2⟩⟩
    rintro k s' ⟨h', tk, i, ys, m', rfl, hile, rfl, hys, hst, hD', hn', F', N'⟩
    by_cases hlt : i < ns.length
    · refine W.item i _ _ _ (by rw [hsize]; exact hlt) hst fun v h₂ tk₂ hMd hk₂ => ?_
      refine W.go i v _ _ _ hMd fun h₃ hP hst₃ hk₃ => ?_
      obtain ⟨T, vals, rfl, ⟨t, x, hx, rfl⟩, hT⟩ := hP
      obtain ⟨t', hx'⟩ := hi.get i ns[i] (by simp [hlt])
      have ex : x = .int (ns.getD i 0) t' := by
        have q : vs[i]? = some x := by simpa using hx
        rw [hx'] at q
        rw [List.getD_eq_getElem?_getD, List.getElem?_eq_getElem hlt]
        exact (Option.some.inj q).symm
      subst ex
      have up₃ : ∀ c o, c ≠ e → c ≠ it → h'.get? c = some o → h₃.get? c = some o := fun c o h1 h2 q => hk₃ c o (by simp [h1, h2]) (hk₂ c o (by simp [h1, h2]) q)
      refine kcp_assign (env := compEnvC scope cl C env) hh hT (lookup_relabel_local hxa) (lookup_relabel_local hxb) (by simp [compEnvC, relabel, hkind]) (hn'.at' fun o q => up₃ _ o (Ne.symm (below _ helt).1) (Ne.symm (below _ hilt).1) q) fun h₄ tk₄ hn₄ hs₄ => ?_
      have up : ∀ c o, c ≠ e → c ≠ it → c ≠ C → h'.get? c = some o → h₄.get? c = some o := fun c o h1 h2 h3 q => hs₄ c o h3 (up₃ c o h1 h2 q)
      obtain ⟨oC, heC, hoC⟩ := LCg.ns_obj hn₄
      have F₄ : Fr h₀ L h₄ m := ⟨F'.ns.at' fun o q => up _ o hLe hLi (below _ hLlt).1 q, fun c o q => up c o (fun z => by rw [z, he₀] at q; cases q) (fun z => by rw [z, hi₀] at q; cases q) (fun z => by rw [z, hC₀] at q; cases q) (F'.keep c o q), F'.above⟩
      have N₄ : News h₀ L h₄ news := fun p hp => ⟨up _ _ (hoff p hp).1 (hoff p hp).2 (below _ (nlt p hp)).1 (N' p hp).1, (N' p hp).2⟩
      have N₅ : News h₀ L h₄ ((C, oC) :: news) := fun p hp => by
        rcases List.mem_cons.mp hp with rfl | hp
        · exact ⟨heC, Ne.symm (below _ hLlt).1, hC₀⟩
        · exact N₄ p hp
      have hD₄ : h₄.get? D = some (LCg.lst ys) := up D _ (Ne.symm (below _ helt).2) (Ne.symm (below _ hilt).2) hDC hD'
      have hst₄ : (∃ old, IsEnum h₄ e it ((i + 1 : Nat) : Int) old) ∧ h₄.IsListIter it l (i + 1) ∧ h₄.IsList l vs.toArray := by
        obtain ⟨⟨od, q1⟩, q2, q3⟩ := hst₃
        exact ⟨⟨od, hs₄ e _ (below _ helt).1 q1⟩, q2.at fun o q => hs₄ it o (below _ hilt).1 q, q3.at fun o q => hs₄ l o (below _ hllt).1 q⟩
      refine wpAny_mono (turn i t t' C oC _ h₄ tk₄ _ hlt hoC (by simp [hab]) (by simp) F₄ N₅) (fun y s₅ h₅ => ?_) fun _ _ e => e
      obtain ⟨ty, tk₅, rfl, rfl⟩ := h₅
      have hyl : ys.length ≤ sizeLine := by
        have := hys.length
        rw [List.length_map, List.length_range] at this
        rw [sizeLine_eq]; omega
      refine append_at (hsz := by show ys.toArray.size ≤ sizeLine; rw [List.size_toArray]; exact hyl) hD₄ fun h₆ hs₆ hD₆ => ?_
      refine ⟨ns.length + 1 - (i + 1), by omega, h₆, tk₅, i + 1, ys ++ [.int (g i (ns.getD i 0)) ty], _, rfl, hlt, rfl, ?_, ?_, hD₆.trans (congrArg some (LCg.lst_snoc ys _)), hn₄.sameBut hs₆ (Ne.symm hDC), F₄.change hs₆ (Ne.symm (below _ hLlt).2) hD₀, fun p hp => ?_⟩
      · rw [List.range_succ, List.map_append]
        exact ints_snoc hys
      · obtain ⟨⟨od, q1⟩, q2, q3⟩ := hst₄
        exact ⟨⟨od, hs₆.extBut e _ (below _ helt).2 q1⟩, q2.at fun o q => hs₆.extBut it o (below _ hilt).2 q, q3.at fun o q => hs₆.extBut l o (below _ hllt).2 q⟩
      · exact ⟨hs₆.extBut _ _ (below _ (nlt p hp)).2 (N₄ p hp).1, (N₄ p hp).2⟩
    · have hin : i = ns.length := by omega
      subst hin
      refine W.done _ _ _ (by rw [hsize]; exact hst) fun h₂ tk₂ hk₂ => ?_
      have up : ∀ c o, c ≠ e → c ≠ it → h'.get? c = some o → h₂.get? c = some o := fun c o h1 h2 q => hk₂ c o (by simp [h1, h2]) q
      refine ⟨_, hn'.at' fun o q => up C o (Ne.symm (below _ helt).1) (Ne.symm (below _ hilt).1) q, fun h'' hs'' => ?_⟩
      refine fin D ys h'' tk₂ ?_ ?_ hys
      · exact ⟨F'.ns.at' fun o q => hs''.extBut _ _ (below _ hLlt).1 (up _ o hLe hLi q), fun c o q => hs''.extBut _ _ (fun z => by rw [z, hC₀] at q; cases q) (up c o (fun z => by rw [z, he₀] at q; cases q) (fun z => by rw [z, hi₀] at q; cases q) (F'.keep c o q)), F'.above⟩
      · intro p hp
        rcases List.mem_cons.mp hp with rfl | hp
        · exact ⟨hs''.extBut _ _ hDC (up D _ (Ne.symm (below _ helt).2) (Ne.symm (below _ hilt).2) hD'), Ne.symm (below _ hLlt).2, hD₀⟩
        · exact ⟨hs''.extBut _ _ (below _ (nlt p hp)).1 (up _ _ (hoff p hp).1 (hoff p hp).2 (N' p hp).1), (N' p hp).2⟩
  exact codeAny_compStart_list (loop _ rfl) (wpAny_pyIter_enum (old _ _ he) (loop _ rfl))
end
end Mine
/-! ## Whole -/
namespace Mine
theorem anew_Whole : True := by
  w_top off
  exact trivial
local macro_rules | `(tactic| k_mem) => `(tactic| first | (with_reducible assumption) | (refine List.mem_cons_of_mem _ ?_; k_mem))
local macro_rules | `(tactic| walk_at "call builtin:len") => `(tactic| (k_here; (with_reducible show wpAny _ _ (call (Value.builtin "len") [Value.ref _]) _ _ _); k_dflt (refine' len_ints ?k1 ?k2 ?k3 ?k4 ?_; (case k1 => k_asm); (case k2 => k_mem); (case k3 => k_asm); (case k4 => omega); k_whole); intro _ _))
local macro_rules | `(tactic| k_all) => `(tactic| assumption)
local macro_rules | `(tactic| walk_at "loc") => `(tactic| first | exact rfl | exact (locOf_upd rfl).trans rfl | exact (locOf_upd (locOf_upd rfl)).trans rfl | exact (locOf_upd (locOf_upd (locOf_upd rfl))).trans rfl | exact (locOf_upd (locOf_upd (locOf_upd (locOf_upd rfl)))).trans rfl | exact (locOf_upd (locOf_upd (locOf_upd (locOf_upd (locOf_upd rfl))))).trans rfl | exact (locOf_upd (locOf_upd (locOf_upd (locOf_upd (locOf_upd (locOf_upd rfl)))))).trans rfl)

theorem whole_sum {wv Bz : Int} (hw0 : 0 ≤ wv) (hBz : (2 : Int) ^ wv.toNat = Bz) {ns : List Int} : ((List.range ns.length).map fun i => ns.getD i 0 * 2 ^ (wv * (i : Int)).toNat).sum = val Bz ns := by
  have key : ∀ k, k ≤ ns.length → ((List.range k).map fun i => ns.getD i 0 * 2 ^ (wv * (i : Int)).toNat).sum = val Bz (ns.take k) := by
    intro k
    induction k with
    | zero => intro _; rfl
    | succ k ih =>
      intro hk
      have e : (2 : Int) ^ (wv * (k : Int)).toNat = Bz ^ k := by
        have e1 : (wv * (k : Int)).toNat = wv.toNat * k := by
          obtain ⟨a, rfl⟩ := Int.eq_ofNat_of_zero_le hw0
          rw [show ((a : Int) * (k : Int)) = ((a * k : Nat) : Int) from (Int.natCast_mul a k).symm, Int.toNat_natCast, Int.toNat_natCast]
        rw [e1, Int.pow_mul, hBz]
      rw [List.range_succ, List.map_append, List.sum_append, ih (by omega), val_take_succ Bz ns k (by omega)]
      simp [e]
  have := key ns.length (Nat.le_refl _)
  rw [List.take_length] at this
  exact this
set_option maxRecDepth 100000 in
set_option maxHeartbeats 8000000 in
theorem whole_ok (w : World) {p : Program} {loose : List Str} {mean : ExcName → Option Value} {mg mb : Str → Option Value} {dp un : Nat} {gd : Option (List Code)} {cn : Str} {cs : Scope} {a : Addr} {ccd : Value} {cl : List (Str × Addr)} {outer : List Env} {A₀ : Around} {base h₀ : Heap} {L : Addr} {m : Str → Option Value} {news : List (Addr × Obj)} {s : Shared} {Q E : Value → Shared → Prop}
  (B : Below A₀ base outer h₀) (F : Fr h₀ L s.heap m) (X : (Mine.hd.heap_39 w.params).In h₀) (N : News h₀ L s.heap news) (T : Top p loose mean mg mb h₀) (hk : cs.kind = .function) (hd : dp + 1 < recursionLimit) (hu : un + 24 < cLine)
  {la : Addr} {va : List Value} {ns : List Int} {na : Nat} {wv : Int} {tw : Tok} (hma : (la, listOf va.toArray na) ∈ news) (hia : IntsAre va ns) (hlen : ns.length ≤ 100) (hw0 : 0 ≤ wv) (hw : wv ≤ 9) {Bz : Int} (hBz : (2 : Int) ^ wv.toNat = Bz) (hB2 : 2 ≤ Bz) (hB9 : Bz ≤ 512) (hl : Limbs Bz ns)
  (ret : ∀ t h' tk', Fr h₀ L h' m → News h₀ L h' news → Q (.int (val Bz ns) t) { s with heap := h', toks := tk' }) :
  wpAny (model PySem.Challenge.rw_nn0001_01.prog w) (ktrTop dp un gd cn cs L a ccd cl outer) (call (.ref 105) [.ref la, .int wv tw]) Q E s := by
  refine wpAny_call ?_
  k_dflt (refine' code_defC ?k1 ?k2 ?k3 ?k4 ?k5 ?kA ?kF ?kK ?k6 ?k7 ?k8 ?k9 ?kB ?kD ?_ ?c2 ?c3 ?c4; (case kA => exact rfl); (case kF => exact rfl); (case kK => assumption); (case k1 => k_asm); (case k2 => k_asm); (case k3 => k_asm); (case k4 => k_asm); (case k5 => k_asm); (case k6 => k_is); (case k7 => k_is); (case k8 => ktr_room); (case k9 => exact BindsTo.of_eq (binds := [(Str.ofString "row", .ref la), (Str.ofString "w", .int wv tw)]) rfl); (case kB => exact rfl); (case kD => decide +kernel); (case c2 => exact rfl); (case c3 => exact rfl); (case c4 => exact rfl); k_whole)
  intro g' L' h' tk' cells' FG' F' N' Y' B' X' T' l1
  k_cells Y'
  simp only [List.cons_append, List.nil_append] at N'
  refine wpAny_mono (E := fun _ _ => False) ?_ (fun _ _ x => x) (fun _ _ x => x.elim)
  clear F N B X T
  generalize hLC : (PySem.Expr.ListComp _ _ _ _) = LC
  k_steps
  subst hLC
  walk1
  walk1
  rename_i o2 d2
  have d3 : o2.data = Data.cell (some (Value.int wv tw)) := d2
  clear d2
  have F2 : Fr g' L' h' (locOf [(Str.ofString "row", some (.ref la))]) := F'
  clear F'
  have hne : ∀ p ∈ ((L' + 1, o2) :: news : Led), p.1 < h'.objs.size := fun p hp => Heap.lt_size (N' p hp).1
  refine comp_enum (h₀ := g') (L := L') (m := locOf [(Str.ofString "row", some (.ref la))]) (news := (L' + 1, o2) :: news) (l := la) (vs := va) (c0 := na) (fun i x => x * 2 ^ (wv * (i : Int)).toNat) (cl := [(Str.ofString "w", L' + 1)]) rfl (by with_unfolding_all rfl) (by decide) rfl (by decide) rfl rfl (by decide) (by intro _; rfl) hia (by omega) ?_
  generalize hP : (fun xv s₁ => ∃ e it, xv = Value.ref e ∧ _) = P
  k_steps
  subst hP
  have hml : (la, listOf va.toArray na) ∈ ((L' + 1, o2) :: news : Led) := List.mem_cons_of_mem _ hma
  have hlist := News.isList N' hml
  refine call_enumerate_list hlist fun h3 hE hI hsz hk3 => ?_
  have hLlt : @LT.lt Nat _ L' h'.objs.size := F2.ns.lt
  have hlalt : @LT.lt Nat _ la h'.objs.size := hne _ hml
  refine ⟨_, _, rfl, hE, hI, hml, F2.keeps hk3, News.grown N' hk3, Nat.succ_ne_self _, ktu_ne 1 hlalt, Nat.ne_of_lt hlalt, ktu_ne 1 hLlt, Nat.ne_of_lt hLlt, ktu_new F2 (Nat.le_add_right _ _), ktu_new F2 (Nat.le_refl _), fun p hp => ⟨ktu_ne 1 (hne p hp), Nat.ne_of_lt (hne p hp)⟩, ?_, ?_⟩
  · intro i t t' C oC m₂ hp tk E' hi hoC ha hb F3 N3
    have hx := limbs_getD (by omega) hl i
    have hwi0 : 0 ≤ wv * (i : Int) := Int.mul_nonneg hw0 (by omega)
    have hwi1 : wv * (i : Int) ≤ 9 * 100 := Int.mul_le_mul hw (by omega) (by omega) (by omega)
    clear F2 N' hE hI
    k_steps
    exact ⟨_, _, rfl, rfl⟩
  · intro D ys hp tk F3 N3 hys
    clear F2 N' hE hI
    k_steps
    (rename Fr _ _ _ _ => F9); (rename News _ _ _ _ => N9)
    rw [whole_sum hw0 hBz]
    exact leaveK_ F9 N9 fun kF kN => ret _ _ _ kF (fun p hp => kN p (List.mem_cons_of_mem _ (List.mem_cons_of_mem _ hp)))
end Mine
/-! ## Wrap -/
namespace Mine

theorem row_low {B : Int} (hB : 2 ≤ B) : ∀ {ns : List Int}, Limbs B ns → (∀ h : ns ≠ [], ns.getLast h ≠ 0) → ns ≠ [] → B ^ (ns.length - 1) ≤ val B ns
  | [], _, _, h => absurd rfl h
  | [x], hl, ht, _ => by
    have h1 := hl x (List.mem_cons_self ..)
    have h2 := ht (by simp)
    simp only [List.getLast_singleton] at h2
    simp only [val, List.length_singleton, Nat.sub_self, Int.pow_zero]
    omega
  | x :: y :: r, hl, ht, _ => by
    have h1 := hl x (List.mem_cons_self ..)
    have h2 := row_low hB (ns := y :: r) (fun z hz => hl z (List.mem_cons_of_mem _ hz)) (fun h => by have := ht (by simp); rwa [List.getLast_cons h] at this) (by simp)
    have e : (x :: y :: r).length - 1 = ((y :: r).length - 1) + 1 := by simp
    rw [e, Int.pow_succ, val, Int.mul_comm (B ^ _) B]
    have h3 : B * B ^ ((y :: r).length - 1) ≤ B * val B (y :: r) := Int.mul_le_mul_of_nonneg_left h2 (by omega)
    omega
theorem row_len {B N : Int} {K : Nat} (hB : 2 ≤ B) {ns : List Int} (h : IsRow B ns N) (hK : N < B ^ K) : ns.length ≤ K := by
  rcases Nat.lt_or_ge K ns.length with h1 | h1
  · exfalso
    have hne : ns ≠ [] := fun e => by rw [e] at h1; exact absurd h1 (Nat.not_lt_zero _)
    have h2 := row_low hB h.limbs h.top hne
    have h3 := pow_mono hB hK (show K ≤ ns.length - 1 by omega)
    rw [h.value] at h2
    omega
  · exact h1
theorem row_nil (B : Int) : IsRow B [] 0 := ⟨fun _ h => absurd h List.not_mem_nil, rfl, fun h => absurd rfl h⟩
theorem val_full (B : Int) : ∀ n, val B (List.replicate n (B - 1)) = B ^ n - 1
  | 0 => by simp [val]
  | n + 1 => by
    rw [List.replicate_succ, val, val_full B n, Int.pow_succ, Int.mul_sub, Int.mul_comm B (B ^ n)]
    omega
theorem row_full {B : Int} (hB : 2 ≤ B) (n : Nat) : IsRow B (List.replicate n (B - 1)) (B ^ n - 1) where
  limbs := by
    intro x hx
    rw [(List.mem_replicate.mp hx).2]
    omega
  value := val_full B n
  top := by
    intro h
    have := List.getLast_mem h
    rw [(List.mem_replicate.mp this).2]
    omega
theorem flat_one (x : Int) (n : Nat) : (List.replicate n [x]).flatten = List.replicate n x := by
  induction n with
  | zero => rfl
  | succ k ih => simp only [List.replicate_succ, List.flatten_cons, ih]; rfl
theorem bits_of {N B : Int} {K : Nat} (h0 : 0 ≤ N) (h : N < B ^ K) (hB2 : 2 ≤ B) (hB9 : B ≤ 512) (hK : K ≤ 100) : Builtin.Int.intBits N ≤ 900 := by
  obtain ⟨n, rfl⟩ := Int.eq_ofNat_of_zero_le h0
  obtain ⟨b, rfl⟩ := Int.eq_ofNat_of_zero_le (show 0 ≤ B by omega)
  have h1 : n < b ^ K := by
    have e : ((b ^ K : Nat) : Int) = (b : Int) ^ K := Int.natCast_pow b K
    rw [← e] at h
    omega
  have h2 : b ^ K ≤ 512 ^ K := Nat.pow_le_pow_left (by omega) K
  have h3 : (512 : Nat) ^ K ≤ 512 ^ 100 := Nat.pow_le_pow_right (by decide) hK
  have h4 : n < 2 ^ 900 := by
    rw [show (2 : Nat) ^ 900 = 512 ^ 100 by rw [show (512 : Nat) = 2 ^ 9 by decide, ← Nat.pow_mul]]
    omega
  unfold Builtin.Int.intBits
  split
  · exact Nat.zero_le _
  · rename_i hne
    have hn : n ≠ 0 := by
      intro e
      rw [e] at hne
      exact hne rfl
    have : n.log2 < 900 := (Nat.log2_lt hn).mpr h4
    show ((n : Int).natAbs).log2 + 1 ≤ 900
    rw [Int.natAbs_natCast]
    omega
theorem mulok_of {a b : Int} (ha : Builtin.Int.intBits a ≤ 900) (hb : Builtin.Int.intBits b ≤ 900) : IntMulOk a b := IntMulOk.of_bits (by omega) (by omega)
section
variable {prog : Program} {w : World} {A : Around} {E : Value → Shared → Prop} {s : Shared} {h₀ : Heap} {L a b : Addr} {led : Led} {va vb : List Value} {as bs : List Int} {na nb : Nat} {Bz Na Nb : Int}
theorem ne_rows {Q : Value → Shared → Prop} (N : News h₀ L s.heap led) (hma : (a, listOf va.toArray na) ∈ led) (hia : IntsAre va as) (hra : IsRow Bz as Na) (hmb : (b, listOf vb.toArray nb) ∈ led) (hib : IntsAre vb bs) (hrb : IsRow Bz bs Nb) (e : Na = Nb) (hB : 2 ≤ Bz) (hu : A.units + 64 < cLine)
    (h : Q (.bool false) s) : wpAny (model prog w) A (compareOp .NotEq (.ref a) (.ref b)) Q E s := by
  subst e
  have q := hra.eq (by omega) hrb
  subst q
  refine ne_intsK (News.isList N hma) hia (News.isList N hmb) hib hu ?_
  simpa using h
theorem eq_rows {Q : Value → Shared → Prop} (N : News h₀ L s.heap led) (hma : (a, listOf va.toArray na) ∈ led) (hia : IntsAre va as) (hra : IsRow Bz as Na) (hmb : (b, listOf vb.toArray nb) ∈ led) (hib : IntsAre vb bs) (hrb : IsRow Bz bs Nb) (e : Na = Nb) (hB : 2 ≤ Bz) (hu : A.units + 64 < cLine)
    (h : Q (.bool true) s) : wpAny (model prog w) A (compareOp .Eq (.ref a) (.ref b)) Q E s := by
  subst e
  have q := hra.eq (by omega) hrb
  subst q
  refine eq_intsK (News.isList N hma) hia (News.isList N hmb) hib hu ?_
  simpa using h
theorem ne_same {Q : Value → Shared → Prop} {x : Int} {t u : Tok} (h : Q (.bool false) s) : wpAny (model prog w) A (compareOp .NotEq (.int x t) (.int x u)) Q E s := by
  refine ne_int ?_
  simpa using h
theorem sq_big {Q : Value → Shared → Prop} {x : Int} {t u : Tok} (hx : Builtin.Int.intBits x ≤ 900) (h : Q (.int (x ^ 2) s.toks) { s with toks := s.toks + 1 }) : wpAny (model prog w) A (binaryOp .Pow (.int x t) (.int 2 u)) Q E s := by
  refine pow_int (by decide) ?_ h
  omega
theorem mul_big {Q : Value → Shared → Prop} {x y : Int} {t u : Tok} (hx : IntMulOk x y) (h : Q (.int (x * y) s.toks) { s with toks := s.toks + 1 }) : wpAny (model prog w) A (binaryOp .Mult (.int x t) (.int y u)) Q E s := mul_int h hx
end
theorem mul_okR (w : World) {p : Program} {loose : List Str} {mean : ExcName → Option Value} {mg mb : Str → Option Value} {dp un : Nat} {gd : Option (List Code)} {cn : Str} {cs : Scope} {a : Addr} {ccd : Value} {cl : List (Str × Addr)} {outer : List Env} {A₀ : Around} {base h₀ : Heap} {L : Addr} {m : Str → Option Value} {news : List (Addr × Obj)} {s : Shared} {Q E : Value → Shared → Prop}
  (B : Below A₀ base outer h₀) (F : Fr h₀ L s.heap m) (X : (Mine.hd.heap_39 w.params).In h₀) (N : News h₀ L s.heap news) (T : Top p loose mean mg mb h₀) (hk : cs.kind = .function) (hd : dp + 2 < recursionLimit) (hu : un + 40 < cLine)
  {wv : Int} {tw : Tok} (hw0 : 0 ≤ wv) (hw : wv ≤ 9) {Bz : Int} (hBz : (2 : Int) ^ wv.toNat = Bz) (hB2 : 2 ≤ Bz) (hB9 : Bz ≤ 512)
  {la : Addr} {va : List Value} {as : List Int} {na : Nat} {Na : Int} {Ka : Nat} (hma : (la, listOf va.toArray na) ∈ news) (hia : IntsAre va as) (hra : IsRow Bz as Na) (hka : Na < Bz ^ Ka) (hKa : Ka ≤ 100)
  {lb : Addr} {vb : List Value} {bs : List Int} {nb : Nat} {Nb : Int} {Kb : Nat} (hmb : (lb, listOf vb.toArray nb) ∈ news) (hib : IntsAre vb bs) (hrb : IsRow Bz bs Nb) (hkb : Nb < Bz ^ Kb) (hKb : Kb ≤ 100)
  (ret : ∀ r (vs' : List Value) rs n' h' tk', Fr h₀ L h' m → News h₀ L h' ((r, listOf vs'.toArray n') :: news) → (∀ p ∈ news, p.1 < r) → IntsAre vs' rs → IsRow Bz rs (Na * Nb) → Q (.ref r) { s with heap := h', toks := tk' }) :
  wpAny (model PySem.Challenge.rw_nn0001_01.prog w) (ktrTop dp un gd cn cs L a ccd cl outer) (call (.ref 74) [.ref la, .ref lb, .int wv tw]) Q E s := by
  have ha := row_len hB2 hra hka
  have hb := row_len hB2 hrb hkb
  refine mul_ok w B F X N T hk hd hu hma hia hmb hib (by omega) hw0 hw hBz hB2 hB9 hra.limbs hrb.limbs fun r vs' rs h' tk' F' N' l hi hr => ret r vs' rs _ h' tk' F' N' l hi ?_
  rw [hra.value, hrb.value] at hr
  exact hr
theorem sqr_okR (w : World) {p : Program} {loose : List Str} {mean : ExcName → Option Value} {mg mb : Str → Option Value} {dp un : Nat} {gd : Option (List Code)} {cn : Str} {cs : Scope} {a : Addr} {ccd : Value} {cl : List (Str × Addr)} {outer : List Env} {A₀ : Around} {base h₀ : Heap} {L : Addr} {m : Str → Option Value} {news : List (Addr × Obj)} {s : Shared} {Q E : Value → Shared → Prop}
  (B : Below A₀ base outer h₀) (F : Fr h₀ L s.heap m) (X : (Mine.hd.heap_39 w.params).In h₀) (N : News h₀ L s.heap news) (T : Top p loose mean mg mb h₀) (hk : cs.kind = .function) (hd : dp + 2 < recursionLimit) (hu : un + 40 < cLine)
  {wv : Int} {tw : Tok} (hw0 : 0 ≤ wv) (hw : wv ≤ 9) {Bz : Int} (hBz : (2 : Int) ^ wv.toNat = Bz) (hB2 : 2 ≤ Bz) (hB9 : Bz ≤ 512)
  {la : Addr} {va : List Value} {as : List Int} {na : Nat} {Na : Int} {Ka : Nat} (hma : (la, listOf va.toArray na) ∈ news) (hia : IntsAre va as) (hra : IsRow Bz as Na) (hka : Na < Bz ^ Ka) (hKa : Ka ≤ 100)
  (ret : ∀ r (vs' : List Value) rs n' h' tk', Fr h₀ L h' m → News h₀ L h' ((r, listOf vs'.toArray n') :: news) → (∀ p ∈ news, p.1 < r) → IntsAre vs' rs → IsRow Bz rs (Na * Na) → Q (.ref r) { s with heap := h', toks := tk' }) :
  wpAny (model PySem.Challenge.rw_nn0001_01.prog w) (ktrTop dp un gd cn cs L a ccd cl outer) (call (.ref 81) [.ref la, .int wv tw]) Q E s := by
  have ha := row_len hB2 hra hka
  refine sqr_ok w B F X N T hk hd hu hma hia (by omega) hw0 hw hBz hB2 hB9 hra.limbs fun r vs' rs h' tk' F' N' l hi hr => ret r vs' rs _ h' tk' F' N' l hi ?_
  rw [hra.value] at hr
  exact hr
theorem add_okR (w : World) {p : Program} {loose : List Str} {mean : ExcName → Option Value} {mg mb : Str → Option Value} {dp un : Nat} {gd : Option (List Code)} {cn : Str} {cs : Scope} {a : Addr} {ccd : Value} {cl : List (Str × Addr)} {outer : List Env} {A₀ : Around} {base h₀ : Heap} {L : Addr} {m : Str → Option Value} {news : List (Addr × Obj)} {s : Shared} {Q E : Value → Shared → Prop}
  (B : Below A₀ base outer h₀) (F : Fr h₀ L s.heap m) (X : (Mine.hd.heap_39 w.params).In h₀) (N : News h₀ L s.heap news) (T : Top p loose mean mg mb h₀) (hk : cs.kind = .function) (hd : dp + 1 < recursionLimit) (hu : un + 24 < cLine)
  {wv : Int} {tw : Tok} (hw0 : 0 ≤ wv) (hw : wv ≤ 9) {Bz : Int} (hBz : (2 : Int) ^ wv.toNat = Bz) (hB2 : 2 ≤ Bz) (hB9 : Bz ≤ 512)
  {la : Addr} {va : List Value} {as : List Int} {na : Nat} {Na : Int} {Ka : Nat} (hma : (la, listOf va.toArray na) ∈ news) (hia : IntsAre va as) (hra : IsRow Bz as Na) (hka : Na < Bz ^ Ka) (hKa : Ka ≤ 100)
  {lb : Addr} {vb : List Value} {bs : List Int} {nb : Nat} {Nb : Int} {Kb : Nat} (hmb : (lb, listOf vb.toArray nb) ∈ news) (hib : IntsAre vb bs) (hrb : IsRow Bz bs Nb) (hkb : Nb < Bz ^ Kb) (hKb : Kb ≤ 100)
  (ret : ∀ r (vs' : List Value) rs n' h' tk', Fr h₀ L h' m → News h₀ L h' ((r, listOf vs'.toArray n') :: news) → (∀ p ∈ news, p.1 < r) → IntsAre vs' rs → IsRow Bz rs (Na + Nb) → Q (.ref r) { s with heap := h', toks := tk' }) :
  wpAny (model PySem.Challenge.rw_nn0001_01.prog w) (ktrTop dp un gd cn cs L a ccd cl outer) (call (.ref 60) [.ref la, .ref lb, .int wv tw]) Q E s := by
  have ha := row_len hB2 hra hka
  have hb := row_len hB2 hrb hkb
  exact add_ok w B F X N T hk hd hu hma hia hmb hib (by omega) (by omega) hw0 hw hBz hB2 hB9 hra hrb fun r vs' rs n' h' tk' F' N' l hi hr => ret r vs' rs n' h' tk' F' N' l hi hr
theorem sub_okR (w : World) {p : Program} {loose : List Str} {mean : ExcName → Option Value} {mg mb : Str → Option Value} {dp un : Nat} {gd : Option (List Code)} {cn : Str} {cs : Scope} {a : Addr} {ccd : Value} {cl : List (Str × Addr)} {outer : List Env} {A₀ : Around} {base h₀ : Heap} {L : Addr} {m : Str → Option Value} {news : List (Addr × Obj)} {s : Shared} {Q E : Value → Shared → Prop}
  (B : Below A₀ base outer h₀) (F : Fr h₀ L s.heap m) (X : (Mine.hd.heap_39 w.params).In h₀) (N : News h₀ L s.heap news) (T : Top p loose mean mg mb h₀) (hk : cs.kind = .function) (hd : dp + 2 < recursionLimit) (hu : un + 40 < cLine)
  {wv : Int} {tw : Tok} (hw0 : 0 ≤ wv) (hw : wv ≤ 9) {Bz : Int} (hBz : (2 : Int) ^ wv.toNat = Bz) (hB2 : 2 ≤ Bz) (hB9 : Bz ≤ 512)
  {la : Addr} {va : List Value} {as : List Int} {na : Nat} {Na : Int} {Ka : Nat} (hma : (la, listOf va.toArray na) ∈ news) (hia : IntsAre va as) (hra : IsRow Bz as Na) (hka : Na < Bz ^ Ka) (hKa : Ka ≤ 100)
  {lb : Addr} {vb : List Value} {bs : List Int} {nb : Nat} (hmb : (lb, listOf vb.toArray nb) ∈ news) (hib : IntsAre vb bs) (hrb : IsRow Bz bs Na)
  (ret : ∀ r (vs' : List Value) rs n' h' tk', Fr h₀ L h' m → News h₀ L h' ((r, listOf vs'.toArray n') :: news) → (∀ p ∈ news, p.1 < r) → IntsAre vs' rs → IsRow Bz rs (0) → Q (.ref r) { s with heap := h', toks := tk' }) :
  wpAny (model PySem.Challenge.rw_nn0001_01.prog w) (ktrTop dp un gd cn cs L a ccd cl outer) (call (.ref 67) [.ref la, .ref lb, .int wv tw]) Q E s := by
  have ha := row_len hB2 hra hka
  have e := hra.eq (by omega) hrb
  subst e
  exact sub_ok w B F X N T hk hd hu hma hia hmb hib (by omega) hw0 hw fun r vs' n' h' tk' F' N' l hi => ret r vs' [] n' h' tk' F' N' l hi (row_nil Bz)
theorem whole_okR (w : World) {p : Program} {loose : List Str} {mean : ExcName → Option Value} {mg mb : Str → Option Value} {dp un : Nat} {gd : Option (List Code)} {cn : Str} {cs : Scope} {a : Addr} {ccd : Value} {cl : List (Str × Addr)} {outer : List Env} {A₀ : Around} {base h₀ : Heap} {L : Addr} {m : Str → Option Value} {news : List (Addr × Obj)} {s : Shared} {Q E : Value → Shared → Prop}
  (B : Below A₀ base outer h₀) (F : Fr h₀ L s.heap m) (X : (Mine.hd.heap_39 w.params).In h₀) (N : News h₀ L s.heap news) (T : Top p loose mean mg mb h₀) (hk : cs.kind = .function) (hd : dp + 1 < recursionLimit) (hu : un + 24 < cLine)
  {wv : Int} {tw : Tok} (hw0 : 0 ≤ wv) (hw : wv ≤ 9) {Bz : Int} (hBz : (2 : Int) ^ wv.toNat = Bz) (hB2 : 2 ≤ Bz) (hB9 : Bz ≤ 512)
  {la : Addr} {va : List Value} {as : List Int} {na : Nat} {Na : Int} {Ka : Nat} (hma : (la, listOf va.toArray na) ∈ news) (hia : IntsAre va as) (hra : IsRow Bz as Na) (hka : Na < Bz ^ Ka) (hKa : Ka ≤ 100)
  (ret : ∀ t h' tk', Fr h₀ L h' m → News h₀ L h' news → Q (.int Na t) { s with heap := h', toks := tk' }) :
  wpAny (model PySem.Challenge.rw_nn0001_01.prog w) (ktrTop dp un gd cn cs L a ccd cl outer) (call (.ref 105) [.ref la, .int wv tw]) Q E s := by
  have ha := row_len hB2 hra hka
  refine whole_ok w B F X N T hk hd hu hma hia (by omega) hw0 hw hBz hB2 hB9 hra.limbs fun t h' tk' F' N' => ?_
  rw [hra.value]
  exact ret t h' tk' F' N'
theorem number_ok2 (w : World) {p : Program} {loose : List Str} {mean : ExcName → Option Value} {mg mb : Str → Option Value} {dp un : Nat} {gd : Option (List Code)} {cn : Str} {cs : Scope} {a : Addr} {ccd : Value} {cl : List (Str × Addr)} {outer : List Env} {A₀ : Around} {base h₀ : Heap} {L : Addr} {m : Str → Option Value} {led : Led} {f : Obj → Led} {pl g : Addr} {i z : Int} {ti tz : Tok} {n : Nat} {s : Shared} {Q E : Value → Shared → Prop}
  (B : Below A₀ base outer h₀) (F : Fr h₀ L s.heap m) (X : (Mine.hd.heap_39 w.params).In h₀) (N : News h₀ L s.heap led) (T : Top p loose mean mg mb h₀) (hk : cs.kind = .function) (hd : dp + 2 < recursionLimit) (hu : un + 40 < cLine)
  (U : LedAt pl (poolO g i z ti tz n) led f) {vg : List Value} {gs : List Int} {ng : Nat} (hg : (g, listOf vg.toArray ng) ∈ led) (hig : IntsAre vg gs) (hglen : gs.length ≤ 1000) (hi0 : 0 ≤ i) (hi1 : i ≤ 1000) (hz0 : 0 ≤ z)
  {wv : Int} {tw : Tok} (hw0 : 1 ≤ wv) (hw : wv ≤ 9) {Bz : Int} (hBz : (2 : Int) ^ wv.toNat = Bz) (hB2 : 2 ≤ Bz) (hB9 : Bz ≤ 512) {mo : Int} {tmo : Tok} (hmo0 : 0 ≤ mo) (hmo1 : mo ≤ 100)
  (ret : ∀ d td i' z' ti' tz' n' h' tk', 0 ≤ d → d < Bz ^ mo.toNat → 0 ≤ i' → i' ≤ 1000 → 0 ≤ z' → Fr h₀ L h' m → News h₀ L h' (f (poolO g i' z' ti' tz' n')) → Q (.int d td) { s with heap := h', toks := tk' }) :
  wpAny (model PySem.Challenge.rw_nn0001_01.prog w) (ktrTop dp un gd cn cs L a ccd cl outer) (call (.ref 112) [.ref pl, .int wv tw, .int mo tmo]) Q E s := by
  obtain ⟨rest, h1, h2, h3⟩ := U.split
  have N2 : News h₀ L s.heap ((pl, poolO g i z ti tz n) :: rest) := fun p hp => N p ((h2 p).mpr hp)
  have hg2 : (g, listOf vg.toArray ng) ∈ rest := by
    rcases List.mem_cons.mp ((h2 _).mp hg) with e | e
    · exact absurd (congrArg Prod.snd e) (not_pool hig)
    · exact e
  exact number_ok w B F X N2 T hk hd hu h1 hg2 hig hglen hi0 hi1 hz0 hw0 hw hBz hB2 hB9 hmo0 hmo1 fun d td i' z' ti' tz' n' h' tk' q1 q2 q3 q4 q5 F' N' => ret d td i' z' ti' tz' n' h' tk' q1 q2 q3 q4 q5 F' fun p hp => N' p ((h3 _ p).mp hp)
end Mine
/-! ## Law -/
namespace Mine
local macro_rules | `(tactic| walk_at "mem") => `(tactic| first | (with_reducible assumption) | (with_reducible exact List.mem_cons_self) | (refine List.mem_cons_of_mem _ ?_; walk_at "mem"))
local macro_rules | `(tactic| walk_at "call builtin:len") => `(tactic| (k_here; (with_reducible show wpAny _ _ (call (Value.builtin "len") [Value.ref _]) _ _ _); k_dflt (refine' len_ints ?k1 ?k2 ?k3 ?k4 ?_; (case k1 => k_asm); (case k2 => walk_at "mem"); (case k3 => k_asm); (case k4 => omega); k_whole); intro _ _))
local macro_rules | `(tactic| k_all) => `(tactic| assumption)
local macro_rules | `(tactic| walk_at "loc") => `(tactic| first | exact rfl | exact (locOf_upd rfl).trans rfl | exact (locOf_upd (locOf_upd rfl)).trans rfl | exact (locOf_upd (locOf_upd (locOf_upd rfl))).trans rfl | exact (locOf_upd (locOf_upd (locOf_upd (locOf_upd rfl)))).trans rfl | exact (locOf_upd (locOf_upd (locOf_upd (locOf_upd (locOf_upd rfl))))).trans rfl | exact (locOf_upd (locOf_upd (locOf_upd (locOf_upd (locOf_upd (locOf_upd rfl)))))).trans rfl)
local macro_rules | `(tactic| walk_at "ledAt") => `(tactic| first | (refine' LedAt.head ?a; (case a => k_all)) | (refine' LedAt.tail ?a ?b; (case a => k_ne); (case b => walk_at "ledAt")))
local macro_rules | `(tactic| walk_at "call ref") => `(tactic| (k_here; (with_reducible show wpAny _ _ (call (Value.ref 88) [Value.ref _, Value.int _ _]) _ _ _); k_dflt (refine' draw_ok2 _ ?B ?F ?X ?N ?T ?hk ?hd ?hu ?U ?hg ?hig ?hgl ?hi0 ?hi1 ?hz0 ?hm0 ?_; (case B => k_asm); (case F => k_asm); (case X => k_asm); (case N => k_asm); (case T => k_asm); (case hk => first | exact rfl | assumption); (case hd => ktr_room); (case hu => ktr_units); (case U => walk_at "ledAt"); (case hg => walk_at "mem"); (case hig => k_asm); (case hgl => k_asm); (case hi0 => first | k_asm | omega); (case hi1 => first | k_asm | omega); (case hz0 => first | k_asm | omega); (case hm0 => first | assumption | omega); k_whole); intro d' td' i' z' ti' tz' n' h' tk' hd0' hd1' hi0' hi1' hz0' F' N'; (try dsimp only at N'); (try k_sweep)))
local macro_rules | `(tactic| walk_at "call ref") => `(tactic| (k_here; (with_reducible show wpAny _ _ (call (Value.ref 112) [Value.ref _, Value.int _ _, Value.int _ _]) _ _ _); k_dflt (refine' number_ok2 _ ?B ?F ?X ?N ?T ?hk ?hd ?hu ?U ?hg ?hig ?hgl ?hi0 ?hi1 ?hz0 ?hw0 ?hw ?hBz ?hB2 ?hB9 ?hmo0 ?hmo1 ?_; (case B => k_asm); (case F => k_asm); (case X => k_asm); (case N => k_asm); (case T => k_asm); (case hk => first | exact rfl | assumption); (case hd => ktr_room); (case hu => ktr_units); (case U => walk_at "ledAt"); (case hg => walk_at "mem"); (case hig => k_asm); (case hgl => k_asm); (case hi0 => first | k_asm | omega); (case hi1 => first | k_asm | omega); (case hz0 => first | k_asm | omega); (case hw0 => k_asm); (case hw => k_asm); (case hBz => k_asm); (case hB2 => k_asm); (case hB9 => k_asm); (case hmo0 => decide); (case hmo1 => decide); k_whole); intro d' td' i' z' ti' tz' n' h' tk' hd0' hd1' hi0' hi1' hz0' F' N'; (try dsimp only at N'); (try k_sweep)))
local macro_rules | `(tactic| walk_at "call ref") => `(tactic| (k_here; (with_reducible show wpAny _ _ (call (Value.ref 100) [Value.int _ _, Value.int _ _]) _ _ _); k_dflt (refine' row_ok _ ?B ?F ?X ?N ?T ?hk ?hd ?hu ?hn ?hw0 ?hw ?hBz ?hB2 ?hB9 ?hK ?hK2 ?_; (case B => k_asm); (case F => k_asm); (case X => k_asm); (case N => k_asm); (case T => k_asm); (case hk => first | exact rfl | assumption); (case hd => ktr_room); (case hu => ktr_units); (case hn => k_asm); (case hw0 => k_asm); (case hw => k_asm); (case hBz => k_asm); (case hB2 => k_asm); (case hB9 => k_asm); (case hK => k_asm); (case hK2 => decide); k_whole); intro r' vs' rs' n' h' tk' F' N' l1' hi' hr'; (try dsimp only at N'); (try k_lt l1'); (try k_sweep)))
local macro_rules | `(tactic| walk_at "call ref") => `(tactic| (k_here; (with_reducible show wpAny _ _ (call (Value.ref 74) [Value.ref _, Value.ref _, Value.int _ _]) _ _ _); k_dflt (refine' mul_okR _ ?B ?F ?X ?N ?T ?hk ?hd ?hu ?hw0 ?hw ?hBz ?hB2 ?hB9 ?hma ?hia ?hra ?hka ?hKa ?hmb ?hib ?hrb ?hkb ?hKb ?_; (case B => k_asm); (case F => k_asm); (case X => k_asm); (case N => k_asm); (case T => k_asm); (case hk => first | exact rfl | assumption); (case hd => ktr_room); (case hu => ktr_units); (case hw0 => k_asm); (case hw => k_asm); (case hBz => k_asm); (case hB2 => k_asm); (case hB9 => k_asm); (case hma => walk_at "mem"); (case hia => first | k_asm | exact IntsAre.nil); (case hra => k_asm); (case hka => k_asm); (case hKa => decide); (case hmb => walk_at "mem"); (case hib => first | k_asm | exact IntsAre.nil); (case hrb => k_asm); (case hkb => k_asm); (case hKb => decide); k_whole); intro r' vs' rs' n' h' tk' F' N' l1' hi' hr'; (try dsimp only at N'); (try k_lt l1'); (try k_sweep)))
local macro_rules | `(tactic| walk_at "call ref") => `(tactic| (k_here; (with_reducible show wpAny _ _ (call (Value.ref 81) [Value.ref _, Value.int _ _]) _ _ _); k_dflt (refine' sqr_okR _ ?B ?F ?X ?N ?T ?hk ?hd ?hu ?hw0 ?hw ?hBz ?hB2 ?hB9 ?hma ?hia ?hra ?hka ?hKa ?_; (case B => k_asm); (case F => k_asm); (case X => k_asm); (case N => k_asm); (case T => k_asm); (case hk => first | exact rfl | assumption); (case hd => ktr_room); (case hu => ktr_units); (case hw0 => k_asm); (case hw => k_asm); (case hBz => k_asm); (case hB2 => k_asm); (case hB9 => k_asm); (case hma => walk_at "mem"); (case hia => first | k_asm | exact IntsAre.nil); (case hra => k_asm); (case hka => k_asm); (case hKa => decide); k_whole); intro r' vs' rs' n' h' tk' F' N' l1' hi' hr'; (try dsimp only at N'); (try k_lt l1'); (try k_sweep)))
local macro_rules | `(tactic| walk_at "call ref") => `(tactic| (k_here; (with_reducible show wpAny _ _ (call (Value.ref 60) [Value.ref _, Value.ref _, Value.int _ _]) _ _ _); k_dflt (refine' add_okR _ ?B ?F ?X ?N ?T ?hk ?hd ?hu ?hw0 ?hw ?hBz ?hB2 ?hB9 ?hma ?hia ?hra ?hka ?hKa ?hmb ?hib ?hrb ?hkb ?hKb ?_; (case B => k_asm); (case F => k_asm); (case X => k_asm); (case N => k_asm); (case T => k_asm); (case hk => first | exact rfl | assumption); (case hd => ktr_room); (case hu => ktr_units); (case hw0 => k_asm); (case hw => k_asm); (case hBz => k_asm); (case hB2 => k_asm); (case hB9 => k_asm); (case hma => walk_at "mem"); (case hia => first | k_asm | exact IntsAre.nil); (case hra => k_asm); (case hka => k_asm); (case hKa => decide); (case hmb => walk_at "mem"); (case hib => first | k_asm | exact IntsAre.nil); (case hrb => k_asm); (case hkb => k_asm); (case hKb => decide); k_whole); intro r' vs' rs' n' h' tk' F' N' l1' hi' hr'; (try dsimp only at N'); (try k_lt l1'); (try k_sweep)))
local macro_rules | `(tactic| walk_at "call ref") => `(tactic| (k_here; (with_reducible show wpAny _ _ (call (Value.ref 67) [Value.ref _, Value.ref _, Value.int _ _]) _ _ _); k_dflt (refine' sub_okR _ ?B ?F ?X ?N ?T ?hk ?hd ?hu ?hw0 ?hw ?hBz ?hB2 ?hB9 ?hma ?hia ?hra ?hka ?hKa ?hmb ?hib ?hrb ?_; (case B => k_asm); (case F => k_asm); (case X => k_asm); (case N => k_asm); (case T => k_asm); (case hk => first | exact rfl | assumption); (case hd => ktr_room); (case hu => ktr_units); (case hw0 => k_asm); (case hw => k_asm); (case hBz => k_asm); (case hB2 => k_asm); (case hB9 => k_asm); (case hma => walk_at "mem"); (case hia => first | k_asm | exact IntsAre.nil); (case hra => k_asm); (case hka => k_asm); (case hKa => decide); (case hmb => walk_at "mem"); (case hib => k_asm); (case hrb => k_asm); k_whole); intro r' vs' rs' n' h' tk' F' N' l1' hi' hr'; (try dsimp only at N'); (try k_lt l1'); (try k_sweep)))
local macro_rules | `(tactic| walk_at "call ref") => `(tactic| (k_here; (with_reducible show wpAny _ _ (call (Value.ref 105) [Value.ref _, Value.int _ _]) _ _ _); k_dflt (refine' whole_okR _ ?B ?F ?X ?N ?T ?hk ?hd ?hu ?hw0 ?hw ?hBz ?hB2 ?hB9 ?hma ?hia ?hra ?hka ?hKa ?_; (case B => k_asm); (case F => k_asm); (case X => k_asm); (case N => k_asm); (case T => k_asm); (case hk => first | exact rfl | assumption); (case hd => ktr_room); (case hu => ktr_units); (case hw0 => k_asm); (case hw => k_asm); (case hBz => k_asm); (case hB2 => k_asm); (case hB9 => k_asm); (case hma => walk_at "mem"); (case hia => first | k_asm | exact IntsAre.nil); (case hra => k_asm); (case hka => k_asm); (case hKa => decide); k_whole); intro t' h' tk' F' N'; (try dsimp only at N'); (try k_sweep)))
local macro_rules | `(tactic| walk_at "compareOp NotEq ref ref") => `(tactic| (k_here; (with_reducible show wpAny _ _ (compareOp CmpOp.NotEq (Value.ref _) (Value.ref _)) _ _ _); k_dflt (refine' ne_rows ?N ?hma ?hia ?hra ?hmb ?hib ?hrb ?e ?hB ?hu ?_; (case N => k_asm); (case hma => walk_at "mem"); (case hia => first | k_asm | exact IntsAre.nil); (case hra => k_asm); (case hmb => walk_at "mem"); (case hib => first | k_asm | exact IntsAre.nil); (case hrb => k_asm); (case hB => k_asm); (case e => first | exact rfl | assumption); (case hu => k_units); k_whole)))
local macro_rules | `(tactic| walk_at "compareOp Eq ref ref") => `(tactic| (k_here; (with_reducible show wpAny _ _ (compareOp CmpOp.Eq (Value.ref _) (Value.ref _)) _ _ _); k_dflt (refine' eq_rows ?N ?hma ?hia ?hra ?hmb ?hib ?hrb ?e ?hB ?hu ?_; (case N => k_asm); (case hma => walk_at "mem"); (case hia => first | k_asm | exact IntsAre.nil); (case hra => k_asm); (case hmb => walk_at "mem"); (case hib => first | k_asm | exact IntsAre.nil); (case hrb => k_asm); (case hB => k_asm); (case e => first | exact rfl | assumption); (case hu => k_units); k_whole)))
local macro_rules | `(tactic| walk_at "compareOp NotEq int int") => `(tactic| (k_here; with_reducible refine ne_same ?_))
local macro_rules | `(tactic| walk_at "binaryOp Mult int int") => `(tactic| (k_here; with_reducible refine mul_big (by assumption) ?_))
local macro_rules | `(tactic| walk_at "binaryOp Pow int int") => `(tactic| (k_here; with_reducible refine sq_big (by assumption) ?_))

theorem fmod_sum (ns : List Int) : 0 ≤ (ns.map fun k => k.fmod 9973).sum := by
  induction ns with
  | nil => exact Int.le_refl _
  | cons x r ih =>
    rw [List.map_cons, List.sum_cons]
    have : 0 ≤ x.fmod 9973 := by rw [Int.fmod_eq_emod_of_nonneg _ (by decide)]; exact Int.emod_nonneg _ (by decide)
    omega
theorem bz_bounds {wv Bz : Int} (h1 : 1 ≤ wv) (h9 : wv ≤ 9) (hBz : (2 : Int) ^ wv.toNat = Bz) : 2 ≤ Bz ∧ Bz ≤ 512 := by
  subst hBz
  have : wv = 1 ∨ wv = 2 ∨ wv = 3 ∨ wv = 4 ∨ wv = 5 ∨ wv = 6 ∨ wv = 7 ∨ wv = 8 ∨ wv = 9 := by omega
  rcases this with rfl | rfl | rfl | rfl | rfl | rfl | rfl | rfl | rfl <;> decide
theorem mul_lt_pow {B x y : Int} {a b : Nat} (hB : 2 ≤ B) (hx0 : 0 ≤ x) (hx : x < B ^ a) (hy0 : 0 ≤ y) (hy : y < B ^ b) : x * y < B ^ (a + b) := by
  have h1 : 0 < B ^ b := Int.pow_pos (by omega)
  have h2 : x * y ≤ x * B ^ b := Int.mul_le_mul_of_nonneg_left (by omega) hx0
  have h3 : x * B ^ b < B ^ a * B ^ b := Int.mul_lt_mul_of_pos_right hx h1
  rw [Int.pow_add]
  omega
theorem add_lt_pow {B x y : Int} {a : Nat} (hB : 2 ≤ B) (hx : x < B ^ a) (hy : y < B ^ a) : x + y < B ^ (a + 1) := by
  have h1 : 0 < B ^ a := Int.pow_pos (by omega)
  have h2 : B ^ a * 2 ≤ B ^ a * B := Int.mul_le_mul_of_nonneg_left hB (by omega)
  rw [Int.pow_succ]
  omega
theorem pow_w {wv Bz : Int} (hw0 : 0 ≤ wv) (hBz : (2 : Int) ^ wv.toNat = Bz) (k : Nat) : (2 : Int) ^ (wv * (k : Int)).toNat = Bz ^ k := by
  have e1 : (wv * (k : Int)).toNat = wv.toNat * k := by
    obtain ⟨a, rfl⟩ := Int.eq_ofNat_of_zero_le hw0
    rw [show ((a : Int) * (k : Int)) = ((a * k : Nat) : Int) from (Int.natCast_mul a k).symm, Int.toNat_natCast, Int.toNat_natCast]
  rw [e1, Int.pow_mul, hBz]
def lLaw (script pool wv one other third a b c found full : Option Value) : List (Str × Option Value) :=
  [(Str.ofString "script", script), (Str.ofString "pool", pool), (Str.ofString "w", wv), (Str.ofString "one", one), (Str.ofString "other", other), (Str.ofString "third", third), (Str.ofString "a", a), (Str.ofString "b", b), (Str.ofString "c", c), (Str.ofString "found", found), (Str.ofString "full", full)]
set_option maxRecDepth 100000 in
set_option maxHeartbeats 8000000 in
theorem law_holds : PySem.Challenge.rw_nn0001_01.Holds := Mine.hd (by
  w_top off
  k_go0
  generalize hR : ((Stmt.Assign [PySem.Expr.Name (Str.ofString "w") _] _ _) :: _ : List Stmt) = REST
  k_steps
  (rename News _ _ _ _ => N1); (rename Fr _ _ _ _ => F1)
  (rename IntsAre _ (List.map _ (List.take 20 _)) => hig)
  (rename List Int => scr)
  subst hR
  rename_i yg _ D1 _ ti0 _ _ _ _ _ _ _ _ _ _ _ _ tz0 _ pl _ _ _ l1 _ kX _
  generalize hz : (11 + (List.map (fun k' : Int => k'.fmod 9973) _).sum : Int) = z0 at N1
  have hz00 : 0 ≤ z0 := by
    rw [← hz]
    have := fmod_sum (List.map (fun k' => if k' < 0 then -k' else k') (List.take 20 scr))
    omega
  have N2 : News _ _ _ [(pl, poolO D1 0 z0 ti0 tz0 0), (D1, listOf yg.toArray yg.length)] := fun p hp => N1 p (by
    simp only [List.mem_cons, List.not_mem_nil, or_false] at hp ⊢
    rcases hp with rfl | rfl
    · exact .inl rfl
    · exact .inr (.inr (.inl rfl)))
  clear N1 hz
  have hgl : (List.map (fun k' => if k' < 0 then -k' else k') (List.take 20 scr)).length ≤ 1000 := by
    rw [List.length_map, List.length_take]
    omega
  generalize (List.map (fun k' => if k' < 0 then -k' else k') (List.take 20 scr)) = gs at hig hgl
  have hlt := l1.2.1
  clear l1
  have F2 := Fr_cast F1 ((locOf_upd (loc_entry [Str.ofString "pool", Str.ofString "w", Str.ofString "one", Str.ofString "other", Str.ofString "third", Str.ofString "a", Str.ofString "b", Str.ofString "c", Str.ofString "found", Str.ofString "full"] _)).trans (show _ = locOf (lLaw (some (.ref _)) (some (.ref pl)) none none none none none none none none none) from rfl))
  clear F1
  generalize hR : ((Stmt.Assign [PySem.Expr.Tuple _ _ _] _ _) :: _ : List Stmt) = REST
  k_steps
  subst hR
  rename_i d1 td1 i1 z1 ti1 tz1 n1 _ _ hd10 hd11 hi10 hi11 hz10 _ F3 N3
  generalize hwv : (2 + d1 : Int) = wv at F3
  have hw1 : 1 ≤ wv := by omega
  have hw0 : 0 ≤ wv := by omega
  have hw9 : wv ≤ 9 := by omega
  obtain ⟨Bz, hBz⟩ : ∃ Bz : Int, (2 : Int) ^ wv.toNat = Bz := ⟨_, rfl⟩
  obtain ⟨hB2, hB9⟩ := bz_bounds hw1 hw9 hBz
  have F4 := Fr_cast F3 ((locOf_upd rfl).trans (show _ = locOf (lLaw (some (.ref _)) (some (.ref pl)) (some (.int wv _)) none none none none none none none none) from rfl))
  clear F3 hwv hd10 hd11
  generalize hR : ((Stmt.Assign [PySem.Expr.Tuple [PySem.Expr.Name (Str.ofString "a") _, _, _] _ _] _ _) :: _ : List Stmt) = REST
  k_steps
  subst hR
  rename_i one t1 i2 z2 ti2 tz2 n2 _ _ h10 h11 _ _ _ other t2 i3 z3 ti3 tz3 n3 _ _ h20 h21 _ _ _ third t3 i4 z4 ti4 tz4 n4 _ _ h30 h31 hi40 hi41 hz40 TT _ l1 _ _ _ _ F5 N5
  replace h11 : one < Bz ^ 10 := h11
  replace h21 : other < Bz ^ 10 := h21
  replace h31 : third < Bz ^ 4 := h31
  have N6 : News _ _ _ [(pl, poolO D1 i4 z4 ti4 tz4 n4), (D1, listOf yg.toArray yg.length)] := fun p hp => N5 p (List.mem_cons_of_mem _ hp)
  clear N5 l1
  have m12 : 0 ≤ one * other := Int.mul_nonneg h10 h20
  have m12' : one * other < Bz ^ 20 := mul_lt_pow hB2 h10 h11 h20 h21
  have m11 : 0 ≤ one * one := Int.mul_nonneg h10 h10
  have m11' : one * one < Bz ^ 20 := mul_lt_pow hB2 h10 h11 h10 h11
  have m13' : one * third < Bz ^ 14 := mul_lt_pow hB2 h10 h11 h30 h31
  have m23' : other * third < Bz ^ 14 := mul_lt_pow hB2 h20 h21 h30 h31
  have s12 : 0 ≤ one + other := by omega
  have s12' : one + other < Bz ^ 11 := add_lt_pow hB2 h11 h21
  have q12e : (one + other) * (one + other) = (one + other) ^ 2 := by rw [Int.pow_succ, Int.pow_succ, Int.pow_zero, Int.one_mul]
  have q12 : 0 ≤ (one + other) ^ 2 := by rw [← q12e]; exact Int.mul_nonneg s12 s12
  have q12' : (one + other) ^ 2 < Bz ^ 22 := by rw [← q12e]; exact mul_lt_pow hB2 s12 s12' s12 s12'
  have b1 := bits_of h10 h11 hB2 hB9 (by decide)
  have b2 := bits_of h20 h21 hB2 hB9 (by decide)
  have b12 := bits_of s12 s12' hB2 hB9 (by decide)
  have k12 : IntMulOk one other := mulok_of b1 b2
  have k11 : IntMulOk one one := mulok_of b1 b1
  have rn := row_nil Bz
  have r0 : (0 : Int) < Bz ^ 0 := by rw [Int.pow_zero]; decide
  have ec : other * one = one * other := Int.mul_comm ..
  have ed : (one + other) * third = one * third + other * third := Int.add_mul ..
  have ez : one * 0 = 0 := Int.mul_zero _
  have F6 := Fr_cast F5 ((locOf_upd (locOf_upd (locOf_upd rfl))).trans (show _ = locOf (lLaw (some (.ref _)) (some (.ref pl)) (some (.int wv _)) (some (.int one _)) (some (.int other _)) (some (.int third _)) none none none none none) from rfl))
  clear F5
  generalize hR : ((Stmt.Assign [PySem.Expr.Name (Str.ofString "found") _] _ _) :: _ : List Stmt) = REST
  k_steps
  subst hR
  rename_i la va as na _ _ ia ra lla lb vb bs nb _ _ ib rb llb lc vc cs nc _ _ ic rc llc TT2 _ ll2 _ _ _ _ F7 N7
  have N8 : News _ _ _ [(lc, listOf vc.toArray nc), (lb, listOf vb.toArray nb), (la, listOf va.toArray na), (pl, poolO D1 i4 z4 ti4 tz4 n4), (D1, listOf yg.toArray yg.length)] := fun p hp => N7 p (List.mem_cons_of_mem _ hp)
  clear N7 ll2
  have F8 := Fr_cast F7 ((locOf_upd (locOf_upd (locOf_upd rfl))).trans (show _ = locOf (lLaw (some (.ref _)) (some (.ref pl)) (some (.int wv _)) (some (.int one _)) (some (.int other _)) (some (.int third _)) (some (.ref la)) (some (.ref lb)) (some (.ref lc)) none none) from rfl))
  clear F7
  generalize hR : ((Stmt.Assign [PySem.Expr.Name (Str.ofString "full") _] _ _) :: _ : List Stmt) = REST
  k_steps
  dsimp only
  (rename Fr _ _ _ _ => F9); (rename News _ _ _ _ => N9)
  have N10 : News _ _ _ [(lb, listOf vb.toArray nb), (la, listOf va.toArray na), (pl, poolO D1 i4 z4 ti4 tz4 n4), (D1, listOf yg.toArray yg.length)] := fun p hp => by
    simp only [List.mem_cons, List.not_mem_nil, or_false] at hp
    rcases hp with rfl | rfl | rfl | rfl <;> exact N9 _ (by walk_at "mem")
  clear N9
  subst hR
  generalize hR : ((Stmt.If _ _ _ _) :: _ : List Stmt) = REST
  k_steps
  subst hR
  rename_i l0 _ ll0 d5 td5 i5 z5 ti5 tz5 n5 _ _ hd50 hd51 hi50 hi51 hz50 DF _ if5 n1 s1 e1 e2 e3 lF _ F11 N11
  generalize hvf : (List.replicate (1 + d5).toNat [Value.int _ _]).flatten = vf at if5 N11
  rw [flat_one, hBz] at if5
  have hnf : (1 + d5).toNat ≤ 9 := by omega
  generalize hn9 : (1 + d5).toNat = nf at if5 hnf
  have rF := row_full hB2 nf
  have hfl : (List.replicate nf (Bz - 1)).length = nf := List.length_replicate
  generalize List.replicate nf (Bz - 1) = fs at if5 rF hfl
  clear s1 e1 e2 e3 hvf hn9
  have hwi0 : 0 ≤ wv * (fs.length : Int) := Int.mul_nonneg hw0 (by omega)
  have hwi1 : wv * (fs.length : Int) ≤ 9 * 9 := Int.mul_le_mul hw9 (by omega) (by omega) (by omega)
  have eP : (2 : Int) ^ (wv * (fs.length : Int)).toNat - 1 = Bz ^ nf - 1 := by rw [hfl, pow_w hw0 hBz]
  have p1 : 0 < Bz ^ nf := Int.pow_pos (by omega)
  have f0 : 0 ≤ Bz ^ nf - 1 := by omega
  have f1 : Bz ^ nf - 1 < Bz ^ 9 := pow_mono hB2 (show Bz ^ nf - 1 < Bz ^ nf by omega) hnf
  clear p1
  generalize Bz ^ nf - 1 = Nf at rF eP f0 f1
  have g1 : Nf * Nf < Bz ^ 18 := mul_lt_pow hB2 f0 f1 f0 f1
  have eN : Nf * Nf = ((2 : Int) ^ (wv * (fs.length : Int)).toNat - 1) ^ 2 := by rw [eP, Int.pow_succ, Int.pow_succ, Int.pow_zero, Int.one_mul]
  have x0 : 0 ≤ ((2 : Int) ^ (wv * (fs.length : Int)).toNat - 1) ^ 2 := by rw [← eN]; exact Int.mul_nonneg f0 f0
  have x1 : ((2 : Int) ^ (wv * (fs.length : Int)).toNat - 1) ^ 2 < Bz ^ 18 := by rw [← eN]; exact g1
  have bF : Builtin.Int.intBits ((2 : Int) ^ (wv * (fs.length : Int)).toNat - 1) ≤ 900 := by rw [eP]; exact bits_of f0 f1 hB2 hB9 (by decide)
  k_steps)
end Mine
theorem PySem.Challenge.cw_nn0001_01_holds : PySem.Challenge.rw_nn0001_01.Holds := by
  exact Mine.law_holds
