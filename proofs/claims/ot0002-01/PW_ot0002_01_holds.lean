import PyProof.Rows.All
import Wide.All
import OpenK.AllK
import Wide.FinOn
import Lean
import PySem.Challenge.RW_ot0002_01
open PySem PySem.W PySem.W.X PyProof.Rows
set_option Elab.async false
set_option maxRecDepth 100000
set_option maxHeartbeats 0
namespace Mine
theorem two {G : Prop} (_h : True) (hc : G) : G := hc
section
local macro_rules | `(tactic| k_head) => `(tactic| x_head)
local macro_rules | `(tactic| o_head $H) => `(tactic| ((have hH := $H); clear hH; refine two ?hw ?hc))
local macro_rules | `(tactic| w_witness2) => `(tactic| trivial)
open_top topk for PySem.Challenge.rw_ot0002_01.row
end
theorem woff : True := by
  w_top off
  trivial
noncomputable abbrev PR := Challenge.rw_ot0002_01.row.prog
noncomputable def VW : Program := view PR [1, 3, 4, 5, 6, 7, 8, 9, 10, 11, 12, 13, 14, 15, 17, 19, 20, 21, 22, 23, 24, 25, 26, 27]
noncomputable def as : List Addr := [0, 1, 2, 3, 4, 5, 6, 7, 8, 9, 10, 11, 12, 13, 14, 15, 16, 17, 18, 19, 20, 27, 28, 29, 30, 31, 32, 33, 34, 35, 36, 37, 38, 41, 48, 49, 50, 53, 60, 61, 62, 65, 72, 73, 74, 77, 84, 85, 86, 89, 96, 97, 98, 101, 108, 109, 110, 113, 120, 121, 122, 125, 132, 133, 134, 137, 144, 145, 146, 147, 148, 149, 150, 151, 152, 153, 154, 155, 158, 165, 166, 167, 168, 169, 170, 171, 172, 173, 174, 177, 184, 185, 186, 189, 196, 197, 198, 201, 202, 203, 204, 205, 206, 207, 208, 209, 210, 211, 212, 213, 214, 215, 216, 217, 218, 219, 220, 221, 222, 223, 224, 225, 226, 227, 228, 229, 230, 231, 232, 233, 234, 235, 236, 237, 238, 239, 240, 241, 242, 243, 244, 245, 246, 247, 248, 249, 250, 251, 252, 253, 254, 255, 256, 257, 258, 259, 260, 261, 262, 263, 264]
abbrev LO : List Str := [Str.ofString "LendError", Str.ofString "BorrowFault"]
noncomputable abbrev HK : Hook := kHook topk.heap_1 as (fun _ => by kernel_rfl)
end Mine

-- G1
section
open PySem PySem.W PySem.W.X PyProof.Rows PySem.Calls PySem.Spec
set_option Elab.async false
set_option maxRecDepth 100000
set_option maxHeartbeats 400000
namespace Mine
theorem lt0 {P : Nat → Prop} : ∀ q, q < 0 → P q := fun _ h => absurd h (Nat.not_lt_zero _)
theorem ltS {n : Nat} {P : Nat → Prop} (h : ∀ q, q < n → P q) (hn : P n) : ∀ q, q < n + 1 → P q := fun q hq =>
  (Nat.lt_succ_iff_lt_or_eq.mp hq).elim (h q) (fun e => e ▸ hn)
theorem wk {α : Type} {M : Model} {A A' : Around} {t : Sem α} {Q : α → Shared → Prop} {E : Value → Shared → Prop} {s : Shared} (hh : A.handled = A'.handled) (hd : A.depth ≤ A'.depth) (hf : A'.frames = none) (hg : A'.guards = none) (hu : A.units ≤ A'.units)
    (h : wpAny M A' t Q E s) : wpAny M A t Q E s := fun Γ p hΓ =>
  h Γ p ⟨hΓ.1.trans hh, Nat.le_trans hΓ.2.1 hd, (fun l hl => by rw [hf] at hl; cases hl), (fun l hl => by rw [hg] at hl; cases hl), Nat.le_trans hΓ.2.2.2.2 hu⟩
section
variable {prog : Program} {w : World} {A : Around} {E : Value → Shared → Prop} {s : Shared}
theorem eqBool_int_str {a : Int} {b : Str} {t u : Tok} {Q : Bool → Shared → Prop} (h : Q false s) : wpAny (model prog w) A (eqBool (.int a t) (.str b u)) Q E s := by
  unfold eqBool
  refine wpAny_holding ?_
  show wpAny _ _ (if (Value.int a t == Value.str b u) = true then _ else _) Q E s
  rw [if_neg (by simp)]
  have h' : wpAny (model prog w) A (richCompare .Eq (.int a t) (.str b u)) (fun v s' => wpAny (model prog w) A (truthOfDropped v) Q E s') E s := PySem.EqMixed.eq_int_str (wpAny_truthy_bool h)
  exact wpAny_bind h'
theorem eqBool_str_int {a : Str} {b : Int} {t u : Tok} {Q : Bool → Shared → Prop} (h : Q false s) : wpAny (model prog w) A (eqBool (.str a t) (.int b u)) Q E s := by
  unfold eqBool
  refine wpAny_holding ?_
  show wpAny _ _ (if (Value.str a t == Value.int b u) = true then _ else _) Q E s
  rw [if_neg (by simp)]
  have h' : wpAny (model prog w) A (richCompare .Eq (.str a t) (.int b u)) (fun v s' => wpAny (model prog w) A (truthOfDropped v) Q E s') E s := PySem.EqMixed.eq_str_int (wpAny_truthy_bool h)
  exact wpAny_bind h'
end
def mixIs : Int ⊕ Str → Value → Bool
  | .inl i, v => Value.isInt i v
  | .inr x, v => Value.isStrOf x v
def mixKind (prog : Program) (w : World) : PySem.KeyKind prog w (Int ⊕ Str) where
  is := mixIs
  hash := fun k => match k with | .inl i => hashInt i | .inr x => hashStr w x
  inj := fun v a b ha hb => by
    cases a <;> cases b <;> simp only [mixIs] at ha hb
    · rw [Value.isInt_inj v _ _ ha hb]
    · obtain ⟨t, rfl⟩ := Value.isInt_shape ha; obtain ⟨u, h⟩ := Value.isStrOf_shape hb; cases h
    · obtain ⟨t, rfl⟩ := Value.isStrOf_shape ha; obtain ⟨u, h⟩ := Value.isInt_shape hb; cases h
    · rw [Value.isStrOf_inj v _ _ ha hb]
  byValue := fun k v h => by
    cases k <;> simp only [mixIs] at h
    · obtain ⟨t, rfl⟩ := Value.isInt_shape h; rfl
    · obtain ⟨t, rfl⟩ := Value.isStrOf_shape h; rfl
  pyHash := fun {A E s k v Q} hv h => by
    cases k <;> simp only [mixIs] at hv
    · obtain ⟨t, rfl⟩ := Value.isInt_shape hv; exact wpAny_pyHash_int h
    · obtain ⟨t, rfl⟩ := Value.isStrOf_shape hv; exact wpAny_pyHash_str h
  eqBool := fun {A E s a b u v Q} hu hv h => by
    cases a <;> cases b <;> simp only [mixIs] at hu hv
    · obtain ⟨t, rfl⟩ := Value.isInt_shape hu; obtain ⟨t', rfl⟩ := Value.isInt_shape hv
      refine wpAny_eqBool_int ?_
      rename_i x y
      have e : decide ((Sum.inl x : Int ⊕ Str) = Sum.inl y) = (x == y) := by
        by_cases hxy : x = y
        · subst hxy; simp
        · have : (Sum.inl x : Int ⊕ Str) ≠ Sum.inl y := fun q => hxy (Sum.inl.inj q)
          rw [decide_eq_false this]; exact (beq_eq_false_iff_ne.mpr hxy).symm
      rw [← e]; exact h
    · obtain ⟨t, rfl⟩ := Value.isInt_shape hu; obtain ⟨t', rfl⟩ := Value.isStrOf_shape hv
      exact eqBool_int_str h
    · obtain ⟨t, rfl⟩ := Value.isStrOf_shape hu; obtain ⟨t', rfl⟩ := Value.isInt_shape hv
      exact eqBool_str_int h
    · obtain ⟨t, rfl⟩ := Value.isStrOf_shape hu; obtain ⟨t', rfl⟩ := Value.isStrOf_shape hv
      refine wpAny_eqBool_str ?_
      rename_i x y
      have e : decide ((Sum.inr x : Int ⊕ Str) = Sum.inr y) = decide (x = y) := by
        by_cases hxy : x = y
        · subst hxy; simp
        · have : (Sum.inr x : Int ⊕ Str) ≠ Sum.inr y := fun q => hxy (Sum.inr.inj q)
          rw [decide_eq_false this, decide_eq_false hxy]
      rw [← e]; exact h
  «strs» := fun k x t v h => by
    cases k <;> simp only [mixIs] at h ⊢
    · obtain ⟨t', h'⟩ := Value.isInt_shape h; cases h'
    · obtain ⟨u, hu⟩ := Value.isStrOf_shape h
      injection hu with hx
      subst hx
      cases v <;> rfl
section
variable {prog : Program} {w : World} {K : Type} [DecidableEq K] {knd : HeapKind prog w K} {A : Around} {E : Value → Shared → Prop} {s : Shared} {d a : Addr} {k : K} {xs : List (K × Addr × Value)}
theorem notin_heap {Q : Value → Shared → Prop} (hu : knd.room A.in1) (hkey : knd.is s.heap k a) (hd : (d == sysModules) = false) (hm : s.heap.DictOfH knd d xs)
    (h : Q (.bool (!(atKey xs k).isSome)) { s with toks := s.toks + knd.draws k }) : wpAny (model prog w) A (compareOp .NotIn (.ref a) (.ref d)) Q E s := by
  show wpAny _ _ (do return .bool (!(← contains (.ref d) (.ref a)))) Q E s
  refine wpAny_bind ?_
  unfold contains
  try with_reducible refine wpAny_holding ?_
  refine wpAny_bind (wpAny_specialOf hm.typeIs slot_dict_contains.lookup ?_)
  show wpAny _ _ (if (some (Value.builtin "dict.__contains__") == some Value.none) = true then _ else _) _ E s
  rw [if_neg (by rw [beq_builtin_none]; exact Bool.false_ne_true)]
  refine wpAny_bind (wpAny_callSpecialUnlessNone?_slot (name := Str.ofString "__contains__") hm.typeIs slot_dict_contains
    (wpAny_call_entry slot_dict_contains hm.typeIs entry_dict_contains ?_ (args_dict_contains _ _)))
  show wpAny _ _ (dictGet d (.ref a) >>= _) _ _ s
  refine wpAny_bind (wpAny_dictGet_heap hu hkey hm ?_)
  cases hf : atKey xs k with
  | some p =>
    rw [hf] at h
    show wpAny _ _ (ret (.bool true)) _ _ _
    exact wpAny_pure ⟨_, rfl, wpAny_truthy_bool (wpAny_pure h)⟩
  | none =>
    rw [hf] at h
    show wpAny _ _ (Builtin.Dict.pendingKey? d (.ref a) >>= _) _ _ _
    exact wpAny_bind (wpAny_pendingKey_other hd (wpAny_pure ⟨_, rfl, wpAny_truthy_bool (wpAny_pure h)⟩))
end
end Mine
end

-- G2
section
open PySem PySem.W PySem.W.X PyProof.Rows PySem.Calls PySem.Spec
set_option Elab.async false
set_option maxRecDepth 100000
set_option maxHeartbeats 400000
namespace Mine
open PyProof.Rows.LCg PyProof.Rows.LCp
section
variable {prog : Program} {w : World} {A : Around} {h₀ : Heap} {L : Addr} {m : Str → Option Value} {env : Env} {elt : Expr} {x : Str} {scope : Scope} {cl : List (Str × Addr)} {s : Shared} {S : List (Addr × Obj) → Prop} {P : Nat → Value → Prop} {Fin : List Value → List (Addr × Obj) → Prop}
theorem compEnd_mono {s₁ s₂ : Shared} {I C D : Addr} {oI oC oD : Obj} {R R' : Value → List (Addr × Obj) → Prop} (hR : ∀ y n, R y n → R' y n) {y : Value} (h : CompEnd h₀ L m s₁ I oI C oC D oD S R y s₂) : CompEnd h₀ L m s₁ I oI C oC D oD S R' y s₂ := by
  obtain ⟨h', tk, news', e, F, N, off, hS, r⟩ := h
  exact ⟨h', tk, news', e, F, N, off, hS, hR _ _ r⟩
theorem compRest_of {n : Nat} (J : Nat → List Value → List (Addr × Obj) → Prop)
    (step : ∀ i ys news, i < n → J i ys news → ∀ v I oI C oC D m₂ h tk (E' : Value → Shared → Prop), P i v → NsObj oC m₂ → m₂ x = some v → Fr h₀ L h m → News h₀ L h ((I, oI) :: (C, oC) :: (D, lst ys) :: news) → Off3 I C D news → ((@Ne Nat I C) ∧ (@Ne Nat I D) ∧ (@Ne Nat C D)) →
      wpAny (model prog w) A (eval elt (compEnvC scope cl C env)) (CompEnd h₀ L m { s with heap := h, toks := tk } I oI C oC D (lst ys) S (fun y news' => J (i + 1) (ys ++ [y]) news')) E' { s with heap := h, toks := tk })
    (fin : ∀ ys news, J n ys news → Fin ys news) :
    ∀ k i ys news, i + k = n → J i ys news → CompRest prog w A h₀ L m env elt x scope cl s S P Fin k i ys news := by
  intro k
  induction k with
  | zero => intro i ys news hi hJ; exact CompRest.zero (fin ys news (by rw [Nat.add_zero] at hi; rw [← hi]; exact hJ))
  | succ k ih =>
    intro i ys news hi hJ
    refine CompRest.succ fun v I oI C oC D m₂ h tk E' hP hC hx F N off ne => ?_
    exact wpAny_mono (step i ys news (by omega) hJ v I oI C oC D m₂ h tk E' hP hC hx F N off ne) (fun y s₂ h₂ => compEnd_mono (fun y n r => ih _ _ _ (by omega) r) h₂) fun _ _ e => e
end
section
variable {prog : Program} {w : World} {A : Around} {E : Value → Shared → Prop} {h₀ : Heap} {env : Env} {target : Expr} {body : List Stmt} {Q : Flow → Shared → Prop} {s : Shared} {ws : List (Addr × String)} {keep : List (Addr × Obj)}
theorem allObj_mono {k k' : List (Addr × Obj) → Prop} (hk : ∀ its, k its → k' its) : ∀ {ws : List (Addr × String)} , AllObj ws k → AllObj ws k' := by
  intro ws
  induction ws generalizing k k' with
  | nil => intro h; exact hk _ h
  | cons a r ih => intro h o ho; exact ih (fun its q => hk _ q) (h o ho)
theorem unrPost_mono {s₁ : Shared} {its : List (Addr × Obj)} {R R' : (Str → Option Value) → List (Addr × Obj) → Prop} (hR : ∀ m n, R m n → R' m n) {f : Flow} {s₂ : Shared} (h : UnrPostW h₀ env.locals s₁ its R Q f s₂) : UnrPostW h₀ env.locals s₁ its R' Q f s₂ := by
  cases f with
  | ret v => exact h
  | brk => exact h
  | next => obtain ⟨h', tk, m', news', e, F, N, o, r⟩ := h; exact ⟨h', tk, m', news', e, F, N, o, hR _ _ r⟩
  | cont => obtain ⟨h', tk, m', news', e, F, N, o, r⟩ := h; exact ⟨h', tk, m', news', e, F, N, o, hR _ _ r⟩
theorem itemsRest_of (J : List Itm → (Str → Option Value) → List (Addr × Obj) → Prop)
    (step : ∀ a r m news, J (a :: r) m news → ∀ v h tk, a.Is v h → Fr h₀ env.locals h m → AllObj ws (fun its => News h₀ env.locals h (its ++ news) →
      wpAny (model prog w) A (assign target env v) (fun _ s₂ => wpAny (model prog w) A (execs body env) (UnrPostW h₀ env.locals { s with heap := h, toks := tk } its (fun m' n' => SubL keep n' ∧ J r m' n') Q) E s₂) E { s with heap := h, toks := tk }))
    (fin : ∀ m news, J [] m news → ∀ h tk, Fr h₀ env.locals h m → News h₀ env.locals h news → Q .next { s with heap := h, toks := tk }) :
    ∀ xs m news, J xs m news → ItemsRest prog w A E h₀ env target body Q s ws keep xs m news := by
  intro xs
  induction xs with
  | nil => intro m news hJ; exact fin m news hJ
  | cons a r ih =>
    intro m news hJ v h tk ha F
    refine allObj_mono (fun its q N => ?_) (step a r m news hJ v h tk ha F)
    exact wpAny_mono (q N) (fun _ s₂ h₂ => wpAny_mono h₂ (fun f s₃ h₃ => unrPost_mono (fun m n r => ⟨r.1, ih _ _ r.2⟩) h₃) fun _ _ e => e) fun _ _ e => e
end
end Mine
end

-- G3
section
open PySem PySem.W PySem.W.X PyProof.Rows PySem.Calls PySem.Spec
set_option Elab.async false
set_option maxRecDepth 100000
set_option maxHeartbeats 400000
namespace Mine
section
variable {N : Nat} {lt : Nat → Nat → Bool} {cmp : Nat → Nat → (Bool → Shared → Prop) → Shared → Prop} {s : Shared}
structure LtOk (lt : Nat → Nat → Bool) : Prop where
  irr : ∀ a, lt a a = false
  tr : ∀ a b c, lt a b = true → lt b c = true → lt a c = true
  tot : ∀ a b, a ≠ b → lt a b = true ∨ lt b a = true
theorem LtOk.asymm (O : LtOk lt) {a b : Nat} (h : lt a b = true) : lt b a = false := by
  cases hb : lt b a with
  | false => rfl
  | true => have := O.tr _ _ _ h hb; rw [O.irr] at this; cases this
theorem LtOk.of_not (O : LtOk lt) {a b : Nat} (hne : a ≠ b) (h : lt a b = false) : lt b a = true := by
  rcases O.tot a b hne with h' | h'
  · rw [h] at h'; cases h'
  · exact h'
def CmpOk (N : Nat) (lt : Nat → Nat → Bool) (cmp : Nat → Nat → (Bool → Shared → Prop) → Shared → Prop) (s : Shared) : Prop := ∀ i j C, i < N → j < N → i ≠ j → C (lt i j) s → cmp i j C s
def Gd (N : Nat) (p : Array Nat) : Prop := p.toList.Perm (List.range N)
theorem Gd.size {p : Array Nat} (h : Gd N p) : p.size = N := by have := h.length_eq; simpa using this
theorem Gd.bnd {p : Array Nat} (h : Gd N p) {i : Nat} (hi : i < N) : p.getD i 0 < N := by
  have hs : i < p.size := by rw [h.size]; exact hi
  have e : p.getD i 0 = p[i] := by simp [Array.getD, hs]
  rw [e]
  have : p[i] ∈ p.toList := by simp
  have := h.mem_iff.mp this
  simpa using this
theorem Gd.ne {p : Array Nat} (h : Gd N p) {i j : Nat} (hi : i < N) (hj : j < N) (hij : i ≠ j) : p.getD i 0 ≠ p.getD j 0 := by
  have hs : i < p.size := by rw [h.size]; exact hi
  have hs' : j < p.size := by rw [h.size]; exact hj
  have e : p.getD i 0 = p[i] := by simp [Array.getD, hs]
  have e' : p.getD j 0 = p[j] := by simp [Array.getD, hs']
  rw [e, e']
  have nd : p.toList.Nodup := h.nodup_iff.mpr List.nodup_range
  intro q
  have hl : i < p.toList.length := by simpa using hs
  have hl' : j < p.toList.length := by simpa using hs'
  have q' : p.toList[i] = p.toList[j] := by simpa using q
  have q2 : p.toList[i]? = p.toList[j]? := by rw [List.getElem?_eq_getElem hl, List.getElem?_eq_getElem hl', q']
  exact hij ((List.getElem?_inj hl nd).mp q2)
theorem Gd.range (N : Nat) : Gd N (List.toArray (List.range N)) := List.Perm.refl _
def Asc (lt : Nat → Nat → Bool) (p : Array Nat) (k : Nat) : Prop := ∀ i j, i < j → j < k → lt (p.getD i 0) (p.getD j 0) = true
def Dsc (lt : Nat → Nat → Bool) (p : Array Nat) (k : Nat) : Prop := ∀ i j, i < j → j < k → lt (p.getD j 0) (p.getD i 0) = true
theorem Asc.snoc (O : LtOk lt) {p : Array Nat} {k : Nat} (h : Asc lt p k) (hk : 1 ≤ k) (hl : lt (p.getD (k - 1) 0) (p.getD k 0) = true) : Asc lt p (k + 1) := by
  intro i j hij hj
  by_cases h1 : j < k
  · exact h i j hij h1
  · have : j = k := by omega
    subst this
    by_cases h2 : i = j - 1
    · subst h2; exact hl
    · exact O.tr _ _ _ (h i (j - 1) (by omega) (by omega)) hl
theorem Dsc.snoc (O : LtOk lt) {p : Array Nat} {k : Nat} (h : Dsc lt p k) (hk : 1 ≤ k) (hl : lt (p.getD k 0) (p.getD (k - 1) 0) = true) : Dsc lt p (k + 1) := by
  intro i j hij hj
  by_cases h1 : j < k
  · exact h i j hij h1
  · have : j = k := by omega
    subst this
    by_cases h2 : i = j - 1
    · subst h2; exact hl
    · exact O.tr _ _ _ hl (h i (j - 1) (by omega) (by omega))
theorem asc_wp (O : LtOk lt) (H : CmpOk N lt cmp s) {p : Array Nat} (hp : Gd N p) {G : Nat → Shared → Prop} : ∀ f n, 1 ≤ n → n + f ≤ N → Asc lt p n →
    (∀ m, n ≤ m → m ≤ n + f → Asc lt p m → (m < n + f → lt (p.getD m 0) (p.getD (m - 1) 0) = true) → G m s) → (kas_asc p f n).kasWp cmp G s := by
  intro f
  induction f with
  | zero => intro n h1 hn ha hG; exact hG n (Nat.le_refl _) (Nat.le_refl _) ha (fun h => absurd h (by omega))
  | succ f ih =>
    intro n h1 hn ha hG
    refine H _ _ _ (hp.bnd (by omega)) (hp.bnd (by omega)) (hp.ne (by omega) (by omega) (by omega)) ?_
    cases hc : lt (p.getD n 0) (p.getD (n - 1) 0) with
    | true => exact hG n (Nat.le_refl _) (by omega) ha (fun _ => hc)
    | false =>
      refine ih (n + 1) (by omega) (by omega) (ha.snoc O h1 (O.of_not (hp.ne (by omega) (by omega) (by omega)) hc)) fun m a b c d => hG m (by omega) (by omega) c fun h => d (by omega)
theorem desc_wp (O : LtOk lt) (H : CmpOk N lt cmp s) {p : Array Nat} (hp : Gd N p) {G : Array Nat × Nat × Nat → Shared → Prop} : ∀ f n, 1 ≤ n → n + f ≤ N → Dsc lt p n →
    (∀ m, n ≤ m → m ≤ n + f → Dsc lt p m → G (p, m, 0) s) → (kas_desc f p n 0).kasWp cmp G s := by
  intro f
  induction f with
  | zero => intro n h1 hn ha hG; exact hG n (Nat.le_refl _) (Nat.le_refl _) ha
  | succ f ih =>
    intro n h1 hn ha hG
    refine H _ _ _ (hp.bnd (by omega)) (hp.bnd (by omega)) (hp.ne (by omega) (by omega) (by omega)) ?_
    cases hc : lt (p.getD n 0) (p.getD (n - 1) 0) with
    | true =>
      show (if (0 : Nat) > 0 then kas_desc f (kas_rev p (n - (0 + 1)) n) (n + 1) 0 else kas_desc f p (n + 1) 0).kasWp cmp G s
      rw [if_neg (by omega)]
      exact ih (n + 1) (by omega) (by omega) (ha.snoc O h1 hc) fun m a b c => hG m (by omega) (by omega) c
    | false =>
      refine H _ _ _ (hp.bnd (by omega)) (hp.bnd (by omega)) (hp.ne (by omega) (by omega) (by omega)) ?_
      rw [O.of_not (hp.ne (by omega) (by omega) (by omega)) hc]
      exact hG n (Nat.le_refl _) (by omega) ha
theorem getD_of_get? {p q : Array Nat} {i j : Nat} (h : p[i]? = q[j]?) : p.getD i 0 = q.getD j 0 := by
  rw [Array.getD_eq_getD_getElem?, Array.getD_eq_getD_getElem?, h]
theorem rev_getD {p : Array Nat} {n : Nat} (hn : n ≤ p.size) (k : Nat) : (kas_rev p 0 n).getD k 0 = if k < n then p.getD (n - 1 - k) 0 else p.getD k 0 := by
  have e := getElem?_mirror_all (xs := p) (i := 0) (j := n) hn k
  by_cases h : k < n
  · rw [if_pos h]
    rw [if_pos ⟨Nat.zero_le _, h⟩] at e
    refine getD_of_get? (e.trans ?_)
    congr 1
    omega
  · rw [if_neg h]
    rw [if_neg (by omega)] at e
    exact getD_of_get? e
theorem rev_gd {p : Array Nat} (hp : Gd N p) (i j : Nat) : Gd N (kas_rev p i j) := (Array.perm_iff_toList_perm.mp (mirror_perm p i j _)).trans hp
theorem bub_gd {p : Array Nat} (hp : Gd N p) (k d : Nat) : Gd N (bubble p k d) := (Array.perm_iff_toList_perm.mp (bubble_perm p k d)).trans hp
theorem bub_getD {p : Array Nat} {k l : Nat} (hk : k < p.size) (hl : l ≤ k) (i : Nat) : (bubble p k (k - l)).getD i 0 = if i = l then p.getD k 0 else if l < i ∧ i ≤ k then p.getD (i - 1) 0 else p.getD i 0 := by
  have e := getElem?_bubble hk (k - l) (by omega) i
  rw [show k - (k - l) = l by omega] at e
  by_cases h1 : i = l
  · rw [if_pos h1]
    rw [if_pos h1] at e
    exact getD_of_get? e
  · rw [if_neg h1]
    rw [if_neg h1] at e
    by_cases h2 : l < i ∧ i ≤ k
    · rw [if_pos h2]
      rw [if_pos h2] at e
      exact getD_of_get? e
    · rw [if_neg h2]
      rw [if_neg h2] at e
      exact getD_of_get? e
theorem tail3_wp (O : LtOk lt) (H : CmpOk N lt cmp s) {p : Array Nat} (hp : Gd N p) {n : Nat} (h1 : 1 ≤ n) (hn : n ≤ N) (hd : Dsc lt p n) {G : Nat × Array Nat → Shared → Prop}
    (hG : ∀ m p', 1 ≤ m → m ≤ N → Gd N p' → Asc lt p' m → G (m, p') s) : (kas_tail3 n N p).kasWp cmp G s := by
  unfold kas_tail3
  rw [KasT.kasWp_bind]
  have ha : Asc lt (kas_rev p 0 n) n := by
    intro i j hij hj
    rw [rev_getD (by rw [hp.size]; exact hn), rev_getD (by rw [hp.size]; exact hn), if_pos (by omega), if_pos hj]
    exact hd _ _ (by omega) (by omega)
  refine asc_wp O H (rev_gd hp 0 n) (N - n) n h1 (by omega) ha fun m a b c _ => ?_
  exact hG m _ (by omega) (by omega) (rev_gd hp 0 n) c
theorem count_wp (O : LtOk lt) (H : CmpOk N lt cmp s) {p : Array Nat} (hp : Gd N p) (hN : 1 ≤ N) {G : Nat × Array Nat → Shared → Prop}
    (hG : ∀ m p', 1 ≤ m → m ≤ N → Gd N p' → Asc lt p' m → G (m, p') s) : (kas_count N p).kasWp cmp G s := by
  unfold kas_count
  rw [KasT.kasWp_bind]
  refine asc_wp O H hp (N - 1) 1 (Nat.le_refl _) (by omega) (fun i j hij hj => absurd hj (by omega)) fun n a b c d => ?_
  by_cases e1 : (n == N) = true
  · rw [if_pos e1]
    exact hG n p a (by omega) hp c
  · rw [if_neg e1]
    have hne : n ≠ N := fun q => e1 (by rw [q]; exact beq_self_eq_true _)
    by_cases e2 : n > 1
    · rw [if_pos e2]
      refine H _ _ _ (hp.bnd (by omega)) (hp.bnd (by omega)) (hp.ne (by omega) (by omega) (by omega)) ?_
      rw [c 0 (n - 1) (by omega) (by omega)]
      exact hG n p a (by omega) hp c
    · rw [if_neg e2]
      have hn1 : n = 1 := by omega
      subst hn1
      unfold kas_descPart
      rw [KasT.kasWp_bind]
      have hd : Dsc lt p 2 := by
        intro i j hij hj
        have : i = 0 := by omega
        have : j = 1 := by omega
        subst i j
        exact d (by omega)
      refine desc_wp O H hp (N - (1 + 1)) (1 + 1) (by omega) (by omega) hd fun m a' b' c' => ?_
      show (if (0 : Nat) > 0 then kas_tail3 m N (kas_rev p (m - (0 + 1)) m) else kas_tail3 m N p).kasWp cmp G s
      rw [if_neg (by omega)]
      exact tail3_wp O H hp (by omega) (by omega) c' hG
theorem place_wp (O : LtOk lt) (H : CmpOk N lt cmp s) {p : Array Nat} (hp : Gd N p) {k : Nat} (hk : k < N) {G : Nat → Shared → Prop} (ha : Asc lt p k) : ∀ f l r, l ≤ r → r ≤ k → r - l ≤ f →
    (∀ i, i < l → lt (p.getD i 0) (p.getD k 0) = true) → (∀ i, r ≤ i → i < k → lt (p.getD k 0) (p.getD i 0) = true) →
    (∀ m, m ≤ k → (∀ i, i < m → lt (p.getD i 0) (p.getD k 0) = true) → (∀ i, m ≤ i → i < k → lt (p.getD k 0) (p.getD i 0) = true) → G m s) → (kas_place p k f l r).kasWp cmp G s := by
  intro f
  induction f with
  | zero =>
    intro l r hlr hr hf h1 h2 hG
    have : l = r := by omega
    subst this
    exact hG l hr h1 h2
  | succ f ih =>
    intro l r hlr hr hf h1 h2 hG
    unfold kas_place
    by_cases hge : l ≥ r
    · rw [if_pos hge]
      have : l = r := by omega
      subst this
      exact hG l hr h1 h2
    · rw [if_neg hge]
      refine H _ _ _ (hp.bnd hk) (hp.bnd (by omega)) (hp.ne hk (by omega) (by omega)) ?_
      cases hc : lt (p.getD k 0) (p.getD ((l + r) / 2) 0) with
      | true =>
        refine ih l ((l + r) / 2) (by omega) (by omega) (by omega) h1 (fun i hi hik => ?_) hG
        by_cases hir : i = (l + r) / 2
        · subst hir; exact hc
        · exact O.tr _ _ _ hc (ha _ _ (by omega) hik)
      | false =>
        have hc' := O.of_not (hp.ne hk (by omega) (by omega)) hc
        refine ih ((l + r) / 2 + 1) r (by omega) hr (by omega) (fun i hi => ?_) h2 hG
        by_cases hir : i = (l + r) / 2
        · subst hir; exact hc'
        · exact O.tr _ _ _ (ha i ((l + r) / 2) (by omega) (by omega)) hc'
theorem bin_wp (O : LtOk lt) (H : CmpOk N lt cmp s) {G : Array Nat → Shared → Prop} (hG : ∀ p, Gd N p → Asc lt p N → G p s) : ∀ f p k, k + f = N → 1 ≤ k → Gd N p → Asc lt p k → (kas_bin f p k).kasWp cmp G s := by
  intro f
  induction f with
  | zero =>
    intro p k hk h1 hp ha
    have : k = N := by omega
    subst this
    exact hG p hp ha
  | succ f ih =>
    intro p k hk h1 hp ha
    show ((kas_place p k k 0 k).bind fun l => kas_bin f (bubble p k (k - l)) (k + 1)).kasWp cmp G s
    rw [KasT.kasWp_bind]
    refine place_wp O H hp (by omega) ha k 0 k (Nat.zero_le _) (Nat.le_refl _) (by omega) (fun i hi => absurd hi (by omega)) (fun i hi hik => absurd hik (by omega)) fun l hl h2 h3 => ?_
    refine ih _ (k + 1) (by omega) (by omega) (bub_gd hp _ _) fun i j hij hj => ?_
    have hks : k < p.size := by rw [hp.size]; omega
    rw [bub_getD hks hl, bub_getD hks hl]
    by_cases a1 : i = l
    · rw [if_pos a1, if_neg (by omega), if_pos (by omega)]
      exact h3 _ (by omega) (by omega)
    · rw [if_neg a1]
      by_cases a2 : j = l
      · rw [if_pos a2, if_neg (by omega)]
        exact h2 _ (by omega)
      · rw [if_neg a2]
        by_cases a3 : l < i ∧ i ≤ k
        · rw [if_pos a3, if_pos (by omega)]
          exact ha _ _ (by omega) (by omega)
        · rw [if_neg a3]
          by_cases a4 : l < j ∧ j ≤ k
          · rw [if_pos a4]
            by_cases a5 : i = j - 1
            · omega
            · exact ha _ _ (by omega) (by omega)
          · rw [if_neg a4]
            exact ha _ _ hij (by omega)
theorem sort_wp (O : LtOk lt) (H : CmpOk N lt cmp s) (hN : 1 ≤ N) {G : Array Nat → Shared → Prop} (hG : ∀ p, Gd N p → Asc lt p N → G p s) : (kas_sort N).kasWp cmp G s := by
  unfold kas_sort
  rw [KasT.kasWp_bind]
  refine count_wp O H (Gd.range N) hN fun m p h1 h2 hp ha => ?_
  show (if m < N then kas_bin (N - max m 1) p (max m 1) else KasT.ret p).kasWp cmp G s
  have hm : max m 1 = m := by omega
  rw [hm]
  by_cases h : m < N
  · rw [if_pos h]
    exact bin_wp O H hG (N - m) p m (by omega) h1 hp ha
  · rw [if_neg h]
    have : m = N := by omega
    subst this
    exact hG p hp ha
end
end Mine
end

-- G4
section
open PySem PySem.W PySem.W.X PyProof.Rows PySem.Calls PySem.Spec
set_option Elab.async false
set_option maxRecDepth 100000
set_option maxHeartbeats 400000
namespace Mine
section
variable {prog : Program} {w : World} {A : Around} {E : Value → Shared → Prop} {s : Shared} {h₀ : Heap} {L a : Addr} {m : Str → Option Value} {news : List (Addr × Obj)} {vs : List Value}
theorem short_sort {n : Nat} {P : PySem.Fin → Shared → Prop} (F : Fr h₀ L s.heap m) (N : News h₀ L s.heap news) (ho : s.heap.get? a = some (seqObj "list" vs.toArray n)) (haL : a ≠ L) (ha0 : h₀.get? a = none) (hna : ∀ p ∈ news, p.1 ≠ a)
    (h2 : vs.length < 2) (h : ∀ h' c, Fr h₀ L h' m → News h₀ L h' ((a, seqObj "list" vs.toArray c) :: news) → P (.done (.ret .none)) { s with heap := h' }) :
    wpAny (model prog w) A (Builtin.«list.sort» ⟨[.ref a], []⟩) P E s := by
  have ha : a < s.heap.objs.size := Heap.lt_size ho
  have s1 := Heap.SameBut.update s.heap a (Obj.mapSeq fun _ => (#[] : Array Value))
  obtain ⟨e1, ho1⟩ : ∃ e1, (s.heap.update a (Obj.mapSeq fun _ => (#[] : Array Value))).get? a = some (seqObj "list" #[] e1) := ⟨_, get?_update_seq ho fun _ => #[]⟩
  have F3 : Fr h₀ L (((s.heap.update a (Obj.mapSeq fun _ => (#[] : Array Value))).push (seqObj "tuple" vs.toArray 0)).push (seqObj "list" #[] 0)) m := ((kas_fr F s1 haL ha0).push _).push _
  have N2 : News h₀ L (((s.heap.update a (Obj.mapSeq fun _ => (#[] : Array Value))).push (seqObj "tuple" vs.toArray 0)).push (seqObj "list" #[] 0)) news :=
    (kas_news N s1 hna).grown fun b x e => Heap.get?_push_of_some _ (Heap.get?_push_of_some _ e)
  have N3 : News h₀ L (((s.heap.update a (Obj.mapSeq fun _ => (#[] : Array Value))).push (seqObj "tuple" vs.toArray 0)).push (seqObj "list" #[] 0)) ((a, seqObj "list" #[] e1) :: news) := fun p hp => by
    rcases List.mem_cons.mp hp with rfl | hp
    · exact ⟨Heap.get?_push_of_some _ (Heap.get?_push_of_some _ ho1), haL, ha0⟩
    · exact N2 p hp
  rw [list_sort_plain]
  refine wpAny_bind (listItems_at ho rfl ?_)
  refine wpAny_bind (listUpdate_at ho rfl ?_ (by rw [List.size_toArray, sizeLine_eq]; omega) (Nat.zero_le _))
  refine wpAny_bind (seqEpoch_at ho1 rfl ?_)
  refine wpAny_bind (wpAny_newTuple ?_ (by show vs.length ≤ _; rw [sizeLine_eq]; omega))
  refine wpAny_bind (wpAny_newList ?_ (Nat.zero_le _))
  refine wpAny_holding ?_
  show wpAny (model prog w) A _ P E { s with heap := ((s.heap.update a (Obj.mapSeq fun _ => (#[] : Array Value))).push (seqObj "tuple" vs.toArray 0)).push (seqObj "list" #[] 0) }
  dsimp only
  have hn2 : vs.toArray.size < 2 := by rw [List.size_toArray]; omega
  rw [if_pos hn2, if_pos hn2]
  refine wpAny_bind (wpAny_pure ?_)
  rw [StateT.run_pure]
  refine wpAny_bind (wpAny_pure ?_)
  dsimp only
  have na := N3 (a, seqObj "list" #[] e1) (.head _)
  have hout : (arrOf (SortSt.mk' general' (vs.toArray.zip vs.toArray) #[] 7 none)).map (·.2) = vs.toArray := by
    refine (show _ = (vs.toArray.zip vs.toArray).map (·.2) from rfl).trans (Array.ext (by simp) fun i h1 h2 => ?_)
    simp
  rw [hout]
  have s2 := Heap.SameBut.update (((s.heap.update a (Obj.mapSeq fun _ => (#[] : Array Value))).push (seqObj "tuple" vs.toArray 0)).push (seqObj "list" #[] 0)) a (Obj.mapSeq fun _ => vs.toArray)
  obtain ⟨c2, hc2⟩ : ∃ c2, ((((s.heap.update a (Obj.mapSeq fun _ => (#[] : Array Value))).push (seqObj "tuple" vs.toArray 0)).push (seqObj "list" #[] 0)).update a (Obj.mapSeq fun _ => vs.toArray)).get? a = some (seqObj "list" vs.toArray c2) := ⟨_, get?_update_seq na.1 fun _ => vs.toArray⟩
  refine wpAny_bind (seqEpoch_at na.1 rfl ?_)
  refine wpAny_bind (listUpdate_at na.1 rfl ?_ (Nat.zero_le _) (by rw [List.size_toArray, sizeLine_eq]; omega))
  simp only [bne_self_eq_false, Bool.false_eq_true, if_false]
  refine wpAny_pure (h _ c2 (kas_fr F3 s2 haL ha0) fun p hp => ?_)
  rcases List.mem_cons.mp hp with rfl | hp
  · exact ⟨hc2, haL, ha0⟩
  · exact kas_news N2 s2 hna p hp
theorem short_sorted {l : Addr} {Q : Value → Shared → Prop} (F : Fr h₀ L s.heap m) (N : News h₀ L s.heap news) (hl : s.heap.IsList l vs.toArray) (h2 : vs.length < 2)
    (h : ∀ D c h', Fr h₀ L h' m → News h₀ L h' ((D, seqObj "list" vs.toArray c) :: news) → (∀ q ∈ news, q.1 < D) → Q (.ref D) { s with heap := h' }) :
    wpAny (model prog w) A (call (.builtin "sorted") [.ref l]) Q E s := by
  refine Calls.call_function_entry kind_sorted plain_sorted entry_sorted (args_sorted1 _) ?_
  unfold Builtin.«sorted»
  refine wpAny_bind (m := checkCount "sorted" 1 1 _) (wpAny_pure ?_)
  refine wpAny_bind (collect_list hl ?_ (by rw [sizeLine_eq]; omega))
  refine wpAny_bind (wpAny_newList ?_ (by rw [sizeLine_eq]; omega))
  have hsz : ((s.heap.push (seqObj "list" #[] 0)).update s.heap.objs.size (Obj.mapSeq (· ++ vs.toArray))).objs.size = s.heap.objs.size + 1 := by
    rw [Heap.size_update, size_push']
  have hoL : (((s.heap.push (seqObj "list" #[] 0)).update s.heap.objs.size (Obj.mapSeq (· ++ vs.toArray))).push (seqObj "list" vs.toArray 0)).get? (s.heap.objs.size + 1) = some (seqObj "list" vs.toArray 0) := by
    rw [← hsz]; exact Heap.get?_push_size _ rfl
  have keep : ∀ b o, s.heap.get? b = some o → (((s.heap.push (seqObj "list" #[] 0)).update s.heap.objs.size (Obj.mapSeq (· ++ vs.toArray))).push (seqObj "list" vs.toArray 0)).get? b = some o := fun b o q => by
    have hlt : b < s.heap.objs.size := Heap.lt_size q
    rw [Heap.get?_push_ne _ _ _ (by rw [hsz]; exact Nat.ne_of_lt (Nat.lt_succ_of_lt hlt)), Heap.get?_update_ne _ _ _ _ (Nat.ne_of_lt hlt), Heap.get?_push_ne _ _ _ (Nat.ne_of_lt hlt)]
    exact q
  have hL : L < s.heap.objs.size := F.ns.lt
  show wpAny _ _ _ _ _ { s with heap := ((s.heap.push (seqObj "list" #[] 0)).update s.heap.objs.size (Obj.mapSeq (· ++ vs.toArray))).push (seqObj "list" vs.toArray 0) }
  rw [hsz]
  refine wpAny_bind (wpAny_holding (wpAny_call_entry slot_list_sort ⟨_, hoL, rfl⟩ entry_list_sort ?body (args_list_sort _)))
  case body =>
    refine short_sort (s := { s with heap := ((s.heap.push (seqObj "list" #[] 0)).update s.heap.objs.size (Obj.mapSeq (· ++ vs.toArray))).push (seqObj "list" vs.toArray 0) })
      (F.kept keep) (N.grown keep) hoL (Nat.ne_of_gt (Nat.lt_succ_of_lt hL)) (Heap.get?_none_of_le (Nat.le_trans F.above (Nat.le_succ_of_le (Nat.le_of_lt hL))))
      (fun p hp => Nat.ne_of_lt (Nat.lt_succ_of_lt (Heap.lt_size (N p hp).1))) h2 fun h' c F' N' => ?_
    exact ⟨_, rfl, wpAny_pure ⟨_, rfl, h _ c h' F' N' fun q hq => Nat.lt_succ_of_lt (Heap.lt_size (N q hq).1)⟩⟩

/-- rows of (int, str, int) -/
structure RowsIn (h : Heap) (vs : List Value) (ks : Nat → Int × Str × Nat) : Prop where
  row : ∀ i (hi : i < vs.length), ∃ a t1 t2 t3 n, vs[i] = .ref a ∧ h.get? a = some (seqObj "tuple" #[.int (ks i).1 t1, .str (ks i).2.1 t2, .int ((ks i).2.2 : Int) t3] n)
def rlt (ks : Nat → Int × Str × Nat) (i j : Nat) : Bool :=
  if (ks i).1 = (ks j).1 then (if (ks i).2.1 = (ks j).2.1 then decide ((ks i).2.2 < (ks j).2.2) else decide ((ks i).2.1.cps.toList < (ks j).2.1.cps.toList)) else decide ((ks i).1 < (ks j).1)
theorem str_ext {a b : Str} (h : a.cps.toList = b.cps.toList) : a = b := by
  cases a; cases b
  congr
  exact Array.toList_inj.mp h
theorem strLt_tot {a b : Str} (h : a ≠ b) : a.cps.toList < b.cps.toList ∨ b.cps.toList < a.cps.toList := by
  by_cases h1 : a.cps.toList < b.cps.toList
  · exact .inl h1
  · by_cases h2 : b.cps.toList < a.cps.toList
    · exact .inr h2
    · exact absurd (str_ext (List.le_antisymm (List.not_lt.mp h2) (List.not_lt.mp h1))) h
theorem rlt_iff {ks : Nat → Int × Str × Nat} {i j : Nat} : rlt ks i j = true ↔ ((ks i).1 < (ks j).1 ∨ ((ks i).1 = (ks j).1 ∧ ((ks i).2.1.cps.toList < (ks j).2.1.cps.toList ∨ ((ks i).2.1 = (ks j).2.1 ∧ (ks i).2.2 < (ks j).2.2)))) := by
  unfold rlt
  by_cases h : (ks i).1 = (ks j).1
  · rw [if_pos h]
    by_cases h' : (ks i).2.1 = (ks j).2.1
    · rw [if_pos h', h, h']
      simp [List.lt_irrefl]
    · rw [if_neg h']
      simp [h, h']
  · rw [if_neg h]
    simp [h]
theorem rlt_ok {ks : Nat → Int × Str × Nat} (hk : ∀ i, (ks i).2.2 = i) : LtOk (rlt ks) where
  irr a := by
    cases h : rlt ks a a with
    | false => rfl
    | true =>
      rw [rlt_iff] at h
      rcases h with h | ⟨_, h | ⟨_, h⟩⟩
      · omega
      · exact absurd h (List.lt_irrefl _)
      · omega
  tr a b c h1 h2 := by
    rw [rlt_iff] at *
    rcases h1 with h1 | ⟨e1, h1 | ⟨f1, h1⟩⟩ <;> rcases h2 with h2 | ⟨e2, h2 | ⟨f2, h2⟩⟩
    · exact .inl (by omega)
    · exact .inl (by omega)
    · exact .inl (by omega)
    · exact .inl (by omega)
    · exact .inr ⟨by omega, .inl (List.lt_trans h1 h2)⟩
    · exact .inr ⟨by omega, .inl (f2 ▸ h1)⟩
    · exact .inl (by omega)
    · exact .inr ⟨by omega, .inl (f1 ▸ h2)⟩
    · exact .inr ⟨by omega, .inr ⟨f1.trans f2, by omega⟩⟩
  tot a b hne := by
    rw [rlt_iff, rlt_iff]
    by_cases h : (ks a).1 = (ks b).1
    · by_cases h' : (ks a).2.1 = (ks b).2.1
      · have := hk a
        have := hk b
        by_cases h3 : a < b
        · exact .inl (.inr ⟨h, .inr ⟨h', by omega⟩⟩)
        · exact .inr (.inr ⟨h.symm, .inr ⟨h'.symm, by omega⟩⟩)
      · rcases strLt_tot h' with h3 | h3
        · exact .inl (.inr ⟨h, .inl h3⟩)
        · exact .inr (.inr ⟨h.symm, .inl h3⟩)
    · rcases Int.lt_or_gt_of_ne h with h3 | h3
      · exact .inl (.inl h3)
      · exact .inr (.inl h3)
theorem rows_ask {ks : Nat → Int × Str × Nat} (hk : ∀ i, (ks i).2.2 = i) (R : RowsIn s.heap vs ks) : CmpOk vs.length (rlt ks) (kas_ask prog w A (tuples' true) vs) s := by
  intro i j C hi hj hij hC
  obtain ⟨a, t1, t2, t3, n, e1, h1⟩ := R.row i hi
  obtain ⟨b, u1, u2, u3, n', e2, h2⟩ := R.row j hj
  unfold kas_ask
  rw [List.getD_eq_getElem?_getD, List.getD_eq_getElem?_getD, List.getElem?_eq_getElem hi, List.getElem?_eq_getElem hj, Option.getD_some, Option.getD_some, e1, e2]
  refine kat_lt h1 rfl h2 rfl ?_
  refine kat_cons (wpAny_eqBool_int ?_)
  by_cases p1 : (ks i).1 = (ks j).1
  · rw [show ((ks i).1 == (ks j).1) = true by rw [p1]; exact beq_self_eq_true _]
    refine kat_yes (kat_cons (wpAny_eqBool_str ?_))
    by_cases p2 : (ks i).2.1 = (ks j).2.1
    · rw [show decide ((ks i).2.1 = (ks j).2.1) = true from decide_eq_true p2]
      refine kat_yes (kat_cons (wpAny_eqBool_int ?_))
      have p3 : (((ks i).2.2 : Int) == ((ks j).2.2 : Int)) = false := by
        rw [hk, hk]; simp only [beq_eq_false_iff_ne, ne_eq]; omega
      rw [p3]
      refine kat_no (kat_one _ _ (lt_int ?_))
      show C _ s
      have e : rlt ks i j = decide (((ks i).2.2 : Int) < ((ks j).2.2 : Int)) := by
        unfold rlt; rw [if_pos p1, if_pos p2]; simp
      rw [← e]; exact hC
    · rw [show decide ((ks i).2.1 = (ks j).2.1) = false from decide_eq_false p2]
      refine kat_no (kat_one _ _ (lt_str ?_))
      show C _ s
      have e : rlt ks i j = decide ((ks i).2.1.cps.toList < (ks j).2.1.cps.toList) := by
        unfold rlt; rw [if_pos p1, if_neg p2]
      rw [← e]; exact hC
  · rw [show ((ks i).1 == (ks j).1) = false by simpa using p1]
    refine kat_no ?_
    refine oneLt_int ?_
    have e : rlt ks i j = decide ((ks i).1 < (ks j).1) := by
      unfold rlt; rw [if_neg p1]
    rw [← e]; exact hC
theorem kat_tups_of {fs : List Value} : ∀ {vs : List Value} {h : Heap}, vs.length = fs.length → (∀ i (hi : i < vs.length) (hi' : i < fs.length), ∃ a o xs n, vs[i] = .ref a ∧ h.get? a = some o ∧ o.cls = .type "tuple" ∧ o.data = .seq xs n ∧ xs[0]? = some fs[i]) → KatTups h vs fs := by
  induction fs with
  | nil =>
    intro vs h hl _
    cases vs with
    | nil => exact KatTups.nil
    | cons v vs => cases hl
  | cons f fs ih =>
    intro vs h hl H
    cases vs with
    | nil => cases hl
    | cons v vs =>
      obtain ⟨a, o, xs, n, e1, e2, e3, e4, e5⟩ := H 0 (Nat.succ_pos _) (Nat.succ_pos _)
      have e1' : v = .ref a := e1
      subst e1'
      refine KatTups.cons e2 e3 e4 e5 (ih (Nat.succ.inj hl) fun i hi hi' => ?_)
      exact H (i + 1) (Nat.succ_lt_succ hi) (Nat.succ_lt_succ hi')
theorem sorted_rows {l : Addr} {Q : Value → Shared → Prop} {ks : Nat → Int × Str × Nat} (hk : ∀ i, (ks i).2.2 = i) (F : Fr h₀ L s.heap m) (N : News h₀ L s.heap news) (hl : s.heap.IsList l vs.toArray) (h64 : vs.length < 64)
    (R : ∀ i (hi : i < vs.length), ∃ a t1 t2 t3 n, vs[i] = .ref a ∧ (a, seqObj "tuple" #[.int (ks i).1 t1, .str (ks i).2.1 t2, .int ((ks i).2.2 : Int) t3] n) ∈ news)
    (h : ∀ D c h' (od : List Nat), od.Perm (List.range vs.length) → od.Pairwise (fun i j => rlt ks i j = true) → Fr h₀ L h' m → News h₀ L h' ((D, seqObj "list" (od.map fun i => vs.getD i Value.none).toArray c) :: news) → (∀ q ∈ news, q.1 < D) → Q (.ref D) { s with heap := h' }) :
    wpAny (model prog w) A (call (.builtin "sorted") [.ref l]) Q E s := by
  by_cases h2 : 2 ≤ vs.length
  · refine kat_sorted F N hl h2 h64 fun D e1 h' F' N' lt => ?_
    have RR : RowsIn h' vs ks := ⟨fun i hi => let ⟨a, t1, t2, t3, n, e1, e2⟩ := R i hi; ⟨a, t1, t2, t3, n, e1, (N' _ (.tail _ e2)).1⟩⟩
    have RT : ∃ tk : Nat → Tok, ∀ i (hi : i < vs.length), ∃ a t2 t3 n, vs[i] = .ref a ∧ h'.get? a = some (seqObj "tuple" #[.int (ks i).1 (tk i), .str (ks i).2.1 t2, .int ((ks i).2.2 : Int) t3] n) := by
      refine ⟨fun i => if hi : i < vs.length then Classical.choose (Classical.choose_spec (RR.row i hi)) else default, fun i hi => ?_⟩
      dsimp only
      rw [dif_pos hi]
      exact ⟨_, Classical.choose_spec (Classical.choose_spec (RR.row i hi))⟩
    obtain ⟨tk, RT⟩ := RT
    refine kat_kind (fs := (List.range vs.length).map fun i => Value.int (ks i).1 (tk i)) (T := .type "int") (kat_tups_of (by simp) fun i hi hi' => ?_) (by simp; omega) (fun v hv => ?_) (by rfl) ?_
    · obtain ⟨a, t2, t3, n, q1, q2⟩ := RT i hi
      refine ⟨a, _, _, n, q1, q2, rfl, rfl, ?_⟩
      simp
    · obtain ⟨i, _, rfl⟩ := List.mem_map.mp hv
      exact Looks.of_pure rfl
    · refine sort_wp (rlt_ok hk) (rows_ask hk RR) (by omega) fun p hp ha => ?_
      refine KasFin.intro F' N' (UpdF.head fun q hq => Nat.ne_of_lt (lt q hq)) fun h'' c F'' N'' => ?_
      have hps := Gd.size hp
      refine h D c h'' p.toList hp ?_ F'' N'' lt
      rw [List.pairwise_iff_getElem]
      intro i j hi hj hij
      have := ha i j hij (by simpa [hps] using hj)
      have hi' : i < p.size := by simpa using hi
      have hj' : j < p.size := by simpa using hj
      simpa [Array.getD, hi', hj'] using this
  · refine short_sorted F N hl (by omega) fun D c h' F' N' lt => ?_
    refine h D c h' (List.range vs.length) (List.Perm.refl _) ?_ F' ?_ lt
    · match vs, h2 with
      | [], _ => exact List.Pairwise.nil
      | [v], _ => exact List.pairwise_singleton _ _
      | _ :: _ :: _, h2 => exact absurd (Nat.le_add_left 2 _) h2
    · match vs, h2, N' with
      | [], _, N' => exact N'
      | [v], _, N' => exact N'
      | _ :: _ :: _, h2, _ => exact absurd (Nat.le_add_left 2 _) h2
end
end Mine
end

-- G5
section
open PySem PySem.W PySem.W.X PyProof.Rows PySem.Calls PySem.Spec PyProof.V
set_option Elab.async false
set_option maxRecDepth 100000
set_option maxHeartbeats 400000
namespace Mine
def klt (a b : Int × Str × Nat) : Prop := a.1 < b.1 ∨ (a.1 = b.1 ∧ a.2.1.cps.toList < b.2.1.cps.toList)
theorem klt.irr {a : Int × Str × Nat} (h : klt a a) : False := by
  rcases h with h | ⟨_, h⟩
  · omega
  · exact List.lt_irrefl _ h
theorem klt.tr {a b c : Int × Str × Nat} (h1 : klt a b) (h2 : klt b c) : klt a c := by
  rcases h1 with h1 | ⟨e1, h1⟩ <;> rcases h2 with h2 | ⟨e2, h2⟩
  · exact .inl (by omega)
  · exact .inl (by omega)
  · exact .inl (by omega)
  · exact .inr ⟨by omega, List.lt_trans h1 h2⟩
def ksame (a b : Int × Str × Nat) : Prop := a.1 = b.1 ∧ a.2.1 = b.2.1
structure OnceIx (n : Nat) (ks : Nat → Int × Str × Nat) (out : List Nat) : Prop where
  srt : out.Pairwise fun i j => klt (ks i) (ks j)
  mem : ∀ i ∈ out, i < n ∧ ∀ j, j < n → ksame (ks j) (ks i) → i ≤ j
  all : ∀ i, i < n → ∃ j ∈ out, ksame (ks j) (ks i)
theorem pw_uniq {ks : Nat → Int × Str × Nat} : ∀ {a b : List Nat}, a.Pairwise (fun i j => klt (ks i) (ks j)) → b.Pairwise (fun i j => klt (ks i) (ks j)) → (∀ i, i ∈ a ↔ i ∈ b) → a = b
  | [], [], _, _, _ => rfl
  | [], y :: _, _, _, h => absurd ((h y).mpr (.head _)) List.not_mem_nil
  | x :: _, [], _, _, h => absurd ((h x).mp (.head _)) List.not_mem_nil
  | x :: a, y :: b, ha, hb, h => by
    have ha' := List.pairwise_cons.mp ha
    have hb' := List.pairwise_cons.mp hb
    have hxy : x = y := by
      rcases List.mem_cons.mp ((h x).mp (.head _)) with e | e
      · exact e
      · rcases List.mem_cons.mp ((h y).mpr (.head _)) with e' | e'
        · exact e'.symm
        · exact ((hb'.1 x e).tr (ha'.1 y e')).irr.elim
    subst hxy
    congr 1
    refine pw_uniq ha'.2 hb'.2 fun i => ⟨fun hi => ?_, fun hi => ?_⟩
    · rcases List.mem_cons.mp ((h i).mp (.tail _ hi)) with e | e
      · subst e; exact (ha'.1 _ hi).irr.elim
      · exact e
    · rcases List.mem_cons.mp ((h i).mpr (.tail _ hi)) with e | e
      · subst e; exact (hb'.1 _ hi).irr.elim
      · exact e
theorem OnceIx.sub {n : Nat} {ks : Nat → Int × Str × Nat} {a b : List Nat} (ha : OnceIx n ks a) (hb : OnceIx n ks b) {i : Nat} (hi : i ∈ a) : i ∈ b := by
  obtain ⟨h1, h2⟩ := ha.mem i hi
  obtain ⟨j, hj, e⟩ := hb.all i h1
  obtain ⟨h3, h4⟩ := hb.mem j hj
  have := h2 j h3 e
  have := h4 i h1 ⟨e.1.symm, e.2.symm⟩
  have : i = j := by omega
  subst this; exact hj
theorem OnceIx.uniq {n : Nat} {ks : Nat → Int × Str × Nat} {a b : List Nat} (ha : OnceIx n ks a) (hb : OnceIx n ks b) : a = b := pw_uniq ha.srt hb.srt fun _ => ⟨ha.sub hb, hb.sub ha⟩
/-- the loop of `once` after the items `od.take k` -/
structure LoopIx (n : Nat) (ks : Nat → Int × Str × Nat) (bef aft out : List Nat) : Prop where
  perm : (bef ++ aft).Perm (List.range n)
  ord : (bef ++ aft).Pairwise fun i j => rlt ks i j = true
  srt : out.Pairwise fun i j => klt (ks i) (ks j)
  frm : ∀ i ∈ out, i ∈ bef
  mem : ∀ i ∈ out, i < n ∧ ∀ j, j < n → ksame (ks j) (ks i) → i ≤ j
  all : ∀ i ∈ bef, ∃ j ∈ out, ksame (ks j) (ks i)
theorem LoopIx.start {n : Nat} {ks : Nat → Int × Str × Nat} {od : List Nat} (hp : od.Perm (List.range n)) (ho : od.Pairwise fun i j => rlt ks i j = true) : LoopIx n ks [] od [] :=
  ⟨hp, ho, List.Pairwise.nil, fun _ h => absurd h List.not_mem_nil, fun _ h => absurd h List.not_mem_nil, fun _ h => absurd h List.not_mem_nil⟩
theorem LoopIx.fin {n : Nat} {ks : Nat → Int × Str × Nat} {bef out : List Nat} (h : LoopIx n ks bef [] out) : OnceIx n ks out :=
  ⟨h.srt, h.mem, fun i hi => h.all i (by have := h.perm.mem_iff (a := i); rw [List.append_nil] at this; exact this.mpr (List.mem_range.mpr hi))⟩
theorem LoopIx.old {n : Nat} {ks : Nat → Int × Str × Nat} {bef aft out : List Nat} {i : Nat} (h : LoopIx n ks bef (i :: aft) out) (hi : ∃ j ∈ out, ksame (ks j) (ks i)) : LoopIx n ks (bef ++ [i]) aft out where
  perm := by have := h.perm; rwa [List.append_cons] at this
  ord := by have := h.ord; rwa [List.append_cons] at this
  srt := h.srt
  frm := fun j hj => List.mem_append_left _ (h.frm j hj)
  mem := h.mem
  all := fun j hj => by
    rcases List.mem_append.mp hj with hj | hj
    · exact h.all j hj
    · rw [List.mem_singleton.mp hj]; exact hi
theorem LoopIx.new {n : Nat} {ks : Nat → Int × Str × Nat} (hk : ∀ i, (ks i).2.2 = i) {bef aft out : List Nat} {i : Nat} (h : LoopIx n ks bef (i :: aft) out) (hi : ¬ ∃ j ∈ out, ksame (ks j) (ks i)) : LoopIx n ks (bef ++ [i]) aft (out ++ [i]) where
  perm := by have := h.perm; rwa [List.append_cons] at this
  ord := by have := h.ord; rwa [List.append_cons] at this
  srt := by
    rw [List.pairwise_append]
    refine ⟨h.srt, List.pairwise_singleton _ _, fun a ha b hb => ?_⟩
    rw [List.mem_singleton.mp hb]
    have hr := (List.pairwise_append.mp h.ord).2.2 a (h.frm a ha) i (.head _)
    rw [rlt_iff] at hr
    rcases hr with hr | ⟨e, hr | ⟨e', _⟩⟩
    · exact .inl hr
    · exact .inr ⟨e, hr⟩
    · exact absurd ⟨a, ha, e, e'⟩ hi
  frm := fun j hj => by
    rcases List.mem_append.mp hj with hj | hj
    · exact List.mem_append_left _ (h.frm j hj)
    · exact List.mem_append_right _ hj
  mem := fun j hj => by
    rcases List.mem_append.mp hj with hj | hj
    · exact h.mem j hj
    · rw [List.mem_singleton.mp hj]
      refine ⟨List.mem_range.mp (h.perm.mem_iff.mp (List.mem_append_right _ (.head _))), fun b hb e => ?_⟩
      rcases List.mem_append.mp (h.perm.mem_iff.mpr (List.mem_range.mpr hb)) with hb' | hb'
      · obtain ⟨c, hc, ec⟩ := h.all b hb'
        exact absurd ⟨c, hc, ec.1.trans e.1, ec.2.trans e.2⟩ hi
      · rcases List.mem_cons.mp hb' with rfl | hb'
        · exact Nat.le_refl _
        · have hr := (List.pairwise_cons.mp (List.pairwise_append.mp h.ord).2.1).1 b hb'
          rw [rlt_iff] at hr
          rcases hr with hr | ⟨_, hr | ⟨_, hr⟩⟩
          · have := e.1; omega
          · rw [e.2] at hr; exact absurd hr (List.lt_irrefl _)
          · rw [hk, hk] at hr; omega
  all := fun j hj => by
    rcases List.mem_append.mp hj with hj | hj
    · obtain ⟨c, hc, e⟩ := h.all j hj
      exact ⟨c, List.mem_append_left _ hc, e⟩
    · rw [List.mem_singleton.mp hj]; exact ⟨i, List.mem_append_right _ (.head _), rfl, rfl⟩
def mixEnc : Int ⊕ Str → PyData
  | .inl i => .int i
  | .inr x => .str x
theorem mixEnc_same (a b : Int ⊕ Str) : PySem.Spec.same (mixEnc a) (mixEnc b) = decide (a = b) := by
  refine Bool.eq_iff_iff.mpr ?_
  cases a <;> cases b <;> simp [mixEnc, PySem.Spec.same]
theorem mixEnc_ke : PyProof.V.KeyEnc mixEnc := by
  refine ⟨mixEnc_same, fun a n k e hne => ?_⟩
  cases n <;> cases k <;> cases a <;> simp [mixEnc, PySem.Spec.same] at e hne ⊢
  · subst e; exact fun q => hne q.symm
  · subst e; exact fun q => hne q.symm
def keyT (x : Int × Str × Nat) : List (Int ⊕ Str) := [.inl x.1, .inr x.2.1]
theorem keyT_eq {x y : Int × Str × Nat} : keyT x = keyT y ↔ ksame x y := by
  simp [keyT, ksame]
def MetIs (ks : Nat → Int × Str × Nat) (D : List (PyData × PyData)) (out : List Nat) : Prop := ∀ i, (lookup (encTuple mixEnc (keyT (ks i))) D).isSome = true ↔ ∃ j ∈ out, ksame (ks j) (ks i)
theorem MetIs.nil {ks : Nat → Int × Str × Nat} : MetIs ks [] [] := fun i => by simp [PySem.Spec.lookup]
theorem MetIs.snoc {ks : Nat → Int × Str × Nat} {D : List (PyData × PyData)} {out : List Nat} (h : MetIs ks D out) (i : Nat) (dv : PyData) : MetIs ks (putD (encTuple mixEnc (keyT (ks i))) dv D) (out ++ [i]) := fun k => by
  by_cases e : keyT (ks k) = keyT (ks i)
  · rw [e, PyProof.V.lookup_putK_same (keyEnc_tuple mixEnc_ke)]
    exact ⟨fun _ => ⟨i, by simp, keyT_eq.mp e.symm⟩, fun _ => rfl⟩
  · rw [PyProof.V.lookup_putK_other (keyEnc_tuple mixEnc_ke) e, h k]
    constructor
    · rintro ⟨j, hj, q⟩; exact ⟨j, List.mem_append_left _ hj, q⟩
    · rintro ⟨j, hj, q⟩
      rcases List.mem_append.mp hj with hj | hj
      · exact ⟨j, hj, q⟩
      · rw [List.mem_singleton.mp hj] at q; exact absurd (keyT_eq.mpr ⟨q.1.symm, q.2.symm⟩) e
end Mine
end

-- G6
section
open PySem PySem.W PySem.W.X PyProof.Rows PySem.Calls PySem.Spec
set_option Elab.async false
set_option maxRecDepth 100000
set_option maxHeartbeats 2000000
namespace Mine
open PyProof.Rows.LCg PyProof.Rows.LCp
section
variable {prog : Program} {w : World} {A : Around} {E : Value → Shared → Prop} {s : Shared} {h₀ : Heap} {L : Addr} {m : Str → Option Value} {env : Env}
theorem loop_pairT {elt iter ct : Expr} {elts : List Expr} {x1} {tp : Pos} {scope : Scope} {pos : Pos} {it acc : Value} {env : Env} {R : Result → Shared → Prop} (I : Nat → Shared → Prop)
    (turn : ∀ n s, I n s → wpAny (model prog w) A (pyNext it) (fun r s₁ => match r with
      | none => R (.ok .next) s₁
      | some v => wpAny (model prog w) A (letOwnedTupleGo (.Tuple elts x1 tp) it v) (fun _ s₁' => wpAny (model prog w) A (assign (.Tuple elts x1 tp) env v) (fun _ s₂ =>
          wpAny (model prog w) A (isTrue ct env (eval ct env)) (fun ok s₃ => if ok = true then wpAny (model prog w) A (eval elt env) (fun x s₄ =>
              wpAny (model prog w) A (call (.builtin "list.append") [acc, x]) (fun _ s₅ => ∃ m, m < n ∧ I m s₅) (notedBy (model prog w) A env fun e s' => R (.error e) s') s₄) (notedBy (model prog w) A env fun e s' => R (.error e) s') s₃
            else ∃ m, m < n ∧ I m s₃) (notedBy (model prog w) A env fun e s' => R (.error e) s') s₂)
          (notedBy (model prog w) A env fun e s' => R (.error e) s') s₁') (notedBy (model prog w) A env fun e s' => R (.error e) s') s₁) (notedBy (model prog w) A env fun e s' => R (.error e) s') s)
    (n : Nat) (h : I n s) : codeAny (model prog w) A (.compLoop (.ListComp elt [⟨.Tuple elts x1 tp, iter, [ct], 0⟩] scope pos) 0 it acc env) R s := by
  refine codeAny_loop rfl I (fun n s hI => ?_) n h
  show wpAny _ A ((compTurn (.ListComp elt [⟨.Tuple elts x1 tp, iter, [ct], 0⟩] scope pos) 0 it acc env).onRaise (fun x => do noteFrame x env; theTreesLotGoes x)) _ _ s
  refine wpAny_noted ?_
  rw [compTurn_list]
  refine wpAny_bind (wpAny_standAt (wpAny_bind (wpAny_mono (turn n s hI) (fun r s₁ h₁ => ?_) fun _ _ h' => h')))
  cases r with
  | none => exact wpAny_pure h₁
  | some v =>
    refine wpAny_bind (wpAny_mono h₁ (fun _ s₁' h₁' => ?_) fun _ _ h' => h')
    refine wpAny_bind (wpAny_mono h₁' (fun _ s₂ h₂ => wpAny_bind (wpAny_mono (wpAny_tests_one h₂) (fun ok s₃ h₃ => ?_) fun _ _ h' => h')) fun _ _ h' => h')
    cases ok with
    | false => exact wpAny_pure ⟨rfl, h₃⟩
    | true => exact wpAny_bind (wpAny_bind (wpAny_mono h₃ (fun x s₄ h₄ => wpAny_bind (wpAny_mono h₄ (fun _ s₅ h₅ => wpAny_pure (wpAny_pure ⟨rfl, h₅⟩)) fun _ _ h' => h')) fun _ _ h' => h'))
end
def StepPT (prog : Program) (w : World) (A : Around) (h₀ : Heap) (L : Addr) (m : Str → Option Value) (env : Env) (ct elt : Expr) (x x₂ : Str) (scope : Scope) (cl : List (Str × Addr)) (s : Shared) (S : List (Addr × Obj) → Prop) (P : Nat → Value → Prop) (n : Nat)
    (J : Nat → List Value → List (Addr × Obj) → Prop) : Prop :=
  ∀ i ys news, i < n → J i ys news → ∀ v, P i v → ∃ (t : Addr) (ot : Obj) (v₁ v₂ : Value) (nt : Nat), v = .ref t ∧ (t, ot) ∈ news ∧ ot.cls = .type "tuple" ∧ ot.data = .seq #[v₁, v₂] nt ∧
      ∀ I oI C oC D m₂ h tk (E' : Value → Shared → Prop), NsObj oC m₂ → m₂ x = some v₁ → m₂ x₂ = some v₂ → Fr h₀ L h m → News h₀ L h ((I, oI) :: (C, oC) :: (D, lst ys) :: news) → Off3 I C D news → ((@Ne Nat I C) ∧ (@Ne Nat I D) ∧ (@Ne Nat C D)) →
      wpAny (model prog w) A (isTrue ct (compEnvC scope cl C env) (eval ct (compEnvC scope cl C env))) (fun ok s' => if ok = true then
        wpAny (model prog w) A (eval elt (compEnvC scope cl C env)) (CompEnd h₀ L m { s with heap := h, toks := tk } I oI C oC D (lst ys) S (fun y news' => J (i + 1) (ys ++ [y]) news')) E' s'
        else CompEnd h₀ L m { s with heap := h, toks := tk } I oI C oC D (lst ys) S (fun _ news' => J (i + 1) ys news') Value.none s') E' { s with heap := h, toks := tk }
section
variable {prog : Program} {w : World} {A : Around} {E : Value → Shared → Prop} {s : Shared} {h₀ : Heap} {L : Addr} {m : Str → Option Value} {env : Env}
theorem block_PT {ct elt iter : Expr} {x x₂ : Str} {px px₂ tp : Pos} {tk} {scope : Scope} {cl : List (Str × Addr)} {pos : Pos} {s₂ : Shared} {I : Addr} {fp : List Addr} {n : Nat} {P : Nat → Value → Prop} {St : Nat → Heap → Prop} {S : List (Addr × Obj) → Prop} {news : List (Addr × Obj)}
    {J : Nat → List Value → List (Addr × Obj) → Prop} {RR : Value → Addr → Result → Shared → Prop}
    (W : Walks prog w A I fp [I] n P St) (hsz : n ≤ sizeLine) (hIo : ∀ i h, St i h → ∃ o, h.get? I = some o)
    (hSt : ∀ i h h' o nw, St i h → h.get? I = some o → h'.get? I = some o → (∀ b o, h₀.get? b = some o → h'.get? b = some o) → News h₀ L h' nw → S nw → St i h')
    (hcell : ∀ y ∈ scope.names, y.2 ≠ .cell) (hkind : scope.kind = .function) (hx : scope.names.lookup x = some .local) (hx₂ : scope.names.lookup x₂ = some .local) (hxx : x ≠ x₂) (hh : A.handled = none) (hLI : ∀ i h, St i h → ∃ l j, h.IsListIter I l j) (hst : St 0 s₂.heap) (hfp : ∀ b ∈ fp, b < s₂.heap.objs.size)
    (F : Fr h₀ L s₂.heap m) (N : News h₀ L s₂.heap news) (hIL : L ≠ I) (hI₀ : h₀.get? I = none) (off : ∀ p ∈ news, p.1 ≠ I) (hS : S news)
    (R : StepPT prog w A h₀ L m env ct elt x x₂ scope cl s₂ S P n J) (hJ : J 0 [] news)
    (hRR : ∀ D C h tk m' ys news', Fr h₀ L h m → News h₀ L h ((D, lst ys) :: news') → Off1 D news' → h.Ns C m' → h₀.get? C = none → h₀.get? D = none → C ≠ L → D ≠ L → C ≠ D → (∀ p ∈ news', p.1 ≠ C) → J n ys news' → RR (.ref D) C (.ok .next) { s₂ with heap := h, toks := tk }) :
    wpAny (model prog w) A (newList []) (fun acc s₃ => wpAny (model prog w) A (newFunctionEnv scope env.globals cl [] env.qual none .none (some env)) (fun cenv s₄ =>
      codeAny (model prog w) A (.compStart (.ListComp elt [⟨.Tuple [.Name x px, .Name x₂ px₂] tk tp, iter, [ct], 0⟩] scope pos) 0 (.ref I) acc { cenv with scope := relabel scope env }) (RR acc cenv.locals) s₄) E s₃) E s₂ := by
  refine wpAny_newObj_type (wpAny_newFunctionEnv hcell (by intro y hy; simp at hy) (fun h₁ hns₁ hsb₁ => ?_) hkind)
  dsimp only at hns₁ hsb₁ ⊢
  generalize hH2 : s₂.heap.push { cls := .type "list", dict := none, data := .seq ([] : List Value).toArray } = H2 at hns₁ hsb₁ ⊢
  have hC : H2.objs.size = s₂.heap.objs.size + 1 := by rw [← hH2, Heap.size_push]
  have hDC : s₂.heap.objs.size ≠ H2.objs.size := by rw [hC]; exact Nat.ne_of_lt (Nat.lt_succ_self _)
  have below : ∀ b, b < s₂.heap.objs.size → b ≠ H2.objs.size ∧ b ≠ s₂.heap.objs.size := fun b hb => ⟨by rw [hC]; exact Nat.ne_of_lt (Nat.lt_succ_of_lt hb), Nat.ne_of_lt hb⟩
  have hDf : s₂.heap.objs.size ∉ fp := fun hm => Nat.lt_irrefl _ (hfp _ hm)
  have hCf : H2.objs.size ∉ fp := fun hm => by have := hfp _ hm; rw [hC] at this; exact Nat.lt_irrefl _ (Nat.lt_of_succ_lt this)
  have hIf : I ∈ fp := W.sub I (List.mem_singleton.mpr rfl)
  have hIlt : I < s₂.heap.objs.size := hfp I hIf
  have old : ∀ b o, s₂.heap.get? b = some o → h₁.get? b = some o := fun b o e => hsb₁.extBut b o (below b (Heap.lt_size e)).1 (Heap.get?_push_of_some _ (hH2 ▸ Heap.get?_push_of_some _ e))
  have hacc : h₁.get? s₂.heap.objs.size = some (lst []) := hsb₁.extBut _ _ hDC (Heap.get?_push_of_some _ (hH2 ▸ Heap.get?_push_size _ rfl))
  have hst₁ : St 0 h₁ := W.frame _ _ _ hst fun b _ o e => old b o e
  have fresh : ∀ a, s₂.heap.objs.size ≤ a → s₂.heap.get? a = none := fun a ha => by
    cases e : s₂.heap.get? a with
    | none => rfl
    | some o' => exact absurd (Heap.lt_size e) (Nat.not_lt.mpr ha)
  have fresh₀ : ∀ a, s₂.heap.objs.size ≤ a → h₀.get? a = none := fun a ha => by
    cases e : h₀.get? a with
    | none => rfl
    | some o' => have := F.keep a o' e; rw [fresh a ha] at this; cases this
  have hD₀ : h₀.get? s₂.heap.objs.size = none := fresh₀ _ (Nat.le_refl _)
  have hC₀ : h₀.get? H2.objs.size = none := fresh₀ _ (by rw [hC]; exact Nat.le_succ _)
  have hLlt : L < s₂.heap.objs.size := F.ns.lt
  have hDL : s₂.heap.objs.size ≠ L := Ne.symm (below L hLlt).2
  have hCL : H2.objs.size ≠ L := Ne.symm (below L hLlt).1
  have hCI : I ≠ H2.objs.size := (below I hIlt).1
  have hDI : I ≠ s₂.heap.objs.size := (below I hIlt).2
  have off₀ : Off3 I H2.objs.size s₂.heap.objs.size news := Off3.of fun p hp => ⟨off p hp, (below _ (Heap.lt_size (N p hp).1)).1, (below _ (Heap.lt_size (N p hp).1)).2⟩
  have loop : ∀ s₃ : Shared, s₃ = { s₂ with heap := h₁, toks := s₂.toks + ([] : List (Str × Value)).length } →
      codeAny (model prog w) A (.compLoop (.ListComp elt [⟨.Tuple [.Name x px, .Name x₂ px₂] tk tp, iter, [ct], 0⟩] scope pos) 0 (.ref I) (.ref s₂.heap.objs.size) (compEnvC scope cl H2.objs.size env))
        (RR (.ref s₂.heap.objs.size) H2.objs.size) s₃ := by
    rintro s₃ rfl
    refine loop_pairT
      (fun k s' => ∃ h' tk i ys m' news', s' = { s₂ with heap := h', toks := tk } ∧ i ≤ n ∧ k = n + 1 - i ∧ ys.length ≤ i ∧ St i h' ∧ Fr h₀ L h' m ∧ h'.Ns H2.objs.size m' ∧ News h₀ L h' ((s₂.heap.objs.size, lst ys) :: news') ∧
        Off3 I H2.objs.size s₂.heap.objs.size news' ∧ S news' ∧ J i ys news') ?_ (n + 1)
      ⟨h₁, _, 0, [], _, news, rfl, Nat.zero_le _, rfl, Nat.le_refl _, hst₁, F.keeps old, hns₁, fun p hp => ?_, off₀, hS, hJ⟩
    · rintro k s' ⟨h', tk, i, ys, m', news', rfl, hi, rfl, hyl, hst', F', hn', N', off', hS', R'⟩
      by_cases hlt : i < n
      · refine W.item i _ _ _ hlt hst' fun v h₂ tk₂ hPv hst₂ hk₂ => ?_
        obtain ⟨t, ot, v₁, v₂, nt, rfl, hmt, hct, hdt, R''⟩ := R i ys news' hlt R' v hPv
        have off3 := off'.mem
        have N₂ : News h₀ L h₂ ((s₂.heap.objs.size, lst ys) :: news') := news_but N' hk₂ fun p hp => by
          rcases List.mem_cons.mp hp with rfl | hp
          · exact Ne.symm hDI
          · exact (off3 p hp).1
        have ht : IsTup h₂ t #[v₁, v₂] := ⟨ot, (N₂ _ (List.mem_cons_of_mem _ hmt)).1, hct, nt, hdt⟩
        obtain ⟨lI, jI, hLi⟩ := hLI _ _ hst₂
        refine wpAny_letOwnedTupleGo_listiter hLi ?_
        refine assign_Tuple_tuple hh ht rfl rfl fun h₅ he => ?_
        have he' : ∀ b o, h₂.get? b = some o → h₅.get? b = some o := fun b o e => he b o (Nat.ne_of_lt (Heap.lt_size e)) e
        refine assignInOrder_cons (wpAny_assign_Name (wpAny_storeName_local (lookup_relabel_local hx) ((hn'.at' fun o e => hk₂ _ o (by simpa using Ne.symm hCI) e).at' fun o e => he' _ o e) (fun h₆ hn₆ hs₆ => ?_) (by simp [compEnvC, relabel, hkind])))
        refine assignInOrder_cons (wpAny_assign_Name (wpAny_storeName_local (lookup_relabel_local hx₂) hn₆ (fun h₃ hn₃ hs₃ => ?_) (by simp [compEnvC, relabel, hkind])))
        refine assignInOrder_nil ?_
        have old3 : ∀ b o, b ≠ H2.objs.size → h₂.get? b = some o → h₃.get? b = some o := fun b o hb e => hs₃.extBut b o hb (hs₆.extBut b o hb (he' b o e))
        have hst₃ : St (i + 1) h₃ := W.frame _ _ _ hst₂ fun b hb o e => old3 b o (fun q => hCf (by rw [← q]; exact hb)) e
        obtain ⟨oI, heI⟩ := hIo _ _ hst₃
        obtain ⟨oC, heC, hoC⟩ := ns_obj hn₃
        have F₃ : Fr h₀ L h₃ m := (((fr_but F' hk₂ hIL hI₀).keeps he').change hs₆ hCL hC₀).change hs₃ hCL hC₀
        have N₃ : News h₀ L h₃ ((I, oI) :: (H2.objs.size, oC) :: (s₂.heap.objs.size, lst ys) :: news') := fun p hp => by
          rcases List.mem_cons.mp hp with rfl | hp
          · exact ⟨heI, Ne.symm hIL, hI₀⟩
          · rcases List.mem_cons.mp hp with rfl | hp
            · exact ⟨heC, hCL, hC₀⟩
            · have z := N₂ p hp
              refine ⟨old3 _ _ ?_ z.1, z.2⟩
              rcases List.mem_cons.mp hp with rfl | hp
              · exact hDC
              · exact (off3 p hp).2.1
        refine wpAny_mono (R'' I oI H2.objs.size oC s₂.heap.objs.size _ h₃ _ _ hoC (by simp [hxx]) (by simp) F₃ N₃ off' ⟨hCI, hDI, Ne.symm hDC⟩) (fun ok s₄ h₄ => ?_) fun _ _ e => e
        cases ok with
        | true =>
          simp only [if_true] at h₄ ⊢
          refine wpAny_mono h₄ (fun y s₅ h₅ => ?_) fun _ _ e => e
          obtain ⟨h₄, tk₄, news₄, rfl, F₄, N₄, off₄, hS₄, R₄⟩ := h₅
          have zI := (N₄ (I, oI) List.mem_cons_self).1
          have zC := (N₄ (H2.objs.size, oC) (List.mem_cons_of_mem _ List.mem_cons_self)).1
          have zD := (N₄ (s₂.heap.objs.size, lst ys) (List.mem_cons_of_mem _ (List.mem_cons_of_mem _ List.mem_cons_self))).1
          have N₄' : News h₀ L h₄ news₄ := fun p hp => N₄ p (List.mem_cons_of_mem _ (List.mem_cons_of_mem _ (List.mem_cons_of_mem _ hp)))
          have hst₄ : St (i + 1) h₄ := hSt _ _ _ _ _ hst₃ heI zI F₄.keep N₄' hS₄
          refine append_at (hsz := by show ys.toArray.size ≤ sizeLine; rw [List.size_toArray]; exact Nat.le_trans (Nat.le_trans hyl hi) hsz) zD fun h₅ hs₅ hD₅ => ?_
          have off4 := off₄.mem
          refine ⟨n + 1 - (i + 1), by omega, h₅, tk₄, i + 1, ys ++ [y], _, news₄, rfl, hlt, rfl, by rw [List.length_append, List.length_singleton]; exact Nat.succ_le_succ hyl, W.frame _ _ _ hst₄ fun b hb o e => hs₅.extBut b o (fun q => hDf (q ▸ hb)) e, F₄.change hs₅ hDL hD₀,
            (hoC.ns zC).sameBut hs₅ (Ne.symm hDC), fun p hp => ?_, off₄, hS₄, R₄⟩
          rcases List.mem_cons.mp hp with rfl | hp
          · exact ⟨hD₅.trans (congrArg some (lst_snoc ys y)), hDL, hD₀⟩
          · exact ⟨hs₅.extBut _ _ (off4 p hp).2.2 (N₄' p hp).1, (N₄' p hp).2⟩
        | false =>
          simp only [Bool.false_eq_true, if_false] at h₄ ⊢
          obtain ⟨h₅, tk₄, news₄, rfl, F₄, N₄, off₄, hS₄, R₄⟩ := h₄
          have zI := (N₄ (I, oI) List.mem_cons_self).1
          have zC := (N₄ (H2.objs.size, oC) (List.mem_cons_of_mem _ List.mem_cons_self)).1
          have N₄' : News h₀ L h₅ news₄ := fun p hp => N₄ p (List.mem_cons_of_mem _ (List.mem_cons_of_mem _ (List.mem_cons_of_mem _ hp)))
          have hst₄ : St (i + 1) h₅ := hSt _ _ _ _ _ hst₃ heI zI F₄.keep N₄' hS₄
          refine ⟨n + 1 - (i + 1), by omega, h₅, tk₄, i + 1, ys, _, news₄, rfl, hlt, rfl, Nat.le_succ_of_le hyl, hst₄, F₄, hoC.ns zC, fun p hp => ?_, off₄, hS₄, R₄⟩
          rcases List.mem_cons.mp hp with rfl | hp
          · exact N₄ _ (List.mem_cons_of_mem _ (List.mem_cons_of_mem _ List.mem_cons_self))
          · exact N₄' p hp
      · obtain rfl : i = n := Nat.le_antisymm hi (Nat.not_lt.mp hlt)
        refine W.done _ _ _ hst' fun h₂ tk₂ hk₂ => ?_
        have off3 := off'.mem
        exact hRR _ _ h₂ tk₂ _ ys news' (fr_but F' hk₂ hIL hI₀) (news_but N' hk₂ fun p hp => by
          rcases List.mem_cons.mp hp with rfl | hp
          · exact Ne.symm hDI
          · exact (off3 p hp).1) off'.one (hn'.at' fun o e => hk₂ _ o (by simpa using Ne.symm hCI) e) hC₀ hD₀ hCL hDL (Ne.symm hDC) (fun p hp => (off3 p hp).2.1) R'
    · rcases List.mem_cons.mp hp with rfl | hp
      · exact ⟨hacc, hDL, hD₀⟩
      · exact ⟨old _ _ (N p hp).1, (N p hp).2⟩
  exact codeAny_compStart_list (loop _ rfl) (W.self 0 _ _ _ hst₁ (loop _ rfl))

def SrcPT (prog : Program) (w : World) (A : Around) (h₀ : Heap) (L : Addr) (m : Str → Option Value) (env : Env) (ct elt : Expr) (x x₂ : Str) (scope : Scope) (cl : List (Str × Addr)) (Fin : Shared → List Value → List (Addr × Obj) → Prop) (xv : Value) (s₁ : Shared) : Prop :=
  ∃ ax its news J, xv = .ref ax ∧ A.handled = none ∧ Fr h₀ L s₁.heap m ∧ News h₀ L s₁.heap news ∧ SrcAt h₀ ax its news ∧ its.size ≤ sizeLine ∧ J 0 [] news ∧
    ∀ s₂ : Shared, (∃ h, s₂ = { s₁ with heap := h }) → StepPT prog w A h₀ L m env ct elt x x₂ scope cl s₂ (SrcAt h₀ ax its) (fun i v => its[i]? = some v) its.size J ∧ ∀ ys nw, J its.size ys nw → Fin s₂ ys nw
theorem SrcPT.ledger {ct elt : Expr} {x x₂ : Str} {scope : Scope} {cl : List (Str × Addr)} {Fin : Shared → List Value → List (Addr × Obj) → Prop} {ax : Addr} {its : Array Value} {k : Nat} {news : List (Addr × Obj)} {s₁ : Shared} (J : Nat → List Value → List (Addr × Obj) → Prop)
    (hh : A.handled = none) (F : Fr h₀ L s₁.heap m) (N : News h₀ L s₁.heap news) (hm : (ax, ({ cls := .type "list", data := .seq its k } : Obj)) ∈ news) (hsz : its.size ≤ sizeLine) (hJ : J 0 [] news)
    (step : ∀ g, StepPT prog w A h₀ L m env ct elt x x₂ scope cl { s₁ with heap := g } (SrcAt h₀ ax its) (fun i v => its[i]? = some v) its.size J) (fin : ∀ g ys nw, J its.size ys nw → Fin { s₁ with heap := g } ys nw) :
    SrcPT prog w A h₀ L m env ct elt x x₂ scope cl Fin (.ref ax) s₁ := ⟨ax, its, news, J, rfl, hh, F, N, .inr ⟨_, hm, rfl, _, rfl⟩, hsz, hJ, fun _ ⟨g, e⟩ => e ▸ ⟨step g, fin g⟩⟩
theorem ListComp_PT {ct elt iter : Expr} {x x₂ : Str} {px px₂ tp : Pos} {tk} {scope : Scope} {cl : List (Str × Addr)} {pos : Pos} {Q : Value → Shared → Prop} (F₀ : Fr h₀ L s.heap m)
    (hclos : closureFor scope env = pure cl) (hcell : ∀ y ∈ scope.names, y.2 ≠ .cell) (hkind : scope.kind = .function)
    (hnames : ∀ y ∈ scope.names, y.2 = .local → scope.names.lookup y.1 = some .local) (hx : scope.names.lookup x = some .local) (hx₂ : scope.names.lookup x₂ = some .local) (hxx : x ≠ x₂)
    (h : wpAny (model prog w) A (eval iter env) (SrcPT prog w A h₀ L m env ct elt x x₂ scope cl (fun s₂ => FinE h₀ L m s₂ Q)) E s)
    (hs : ∀ x, foldedSetIterable iter env x = pure x := by intro _; rfl) :
    wpAny (model prog w) A (eval (.ListComp elt [⟨.Tuple [.Name x px, .Name x₂ px₂] tk tp, iter, [ct], 0⟩] scope pos) env) Q E s := by
  rw [eval_ListComp]
  refine wpAny_comprehension_free (use := none) rfl hs hclos hkind hnames (wpAny_mono h (fun xv s₁ h₁ => ?_) fun _ _ e => e)
  obtain ⟨ax, its, news, J, rfl, hh, F, N, S, hsz, hJ, R⟩ := h₁
  · have hl := S.list F.keep N
    have hlt : ax < s₁.heap.objs.size := by obtain ⟨_, e, _⟩ := hl; exact Heap.lt_size e
    refine wpAny_pyIter_list hl ?_
    have up : ∀ b o, s₁.heap.get? b = some o → (s₁.heap.push { cls := .type "list_iterator", data := .fields #[.ref ax, .int 0 0] }).get? b = some o := fun b o e => Heap.get?_push_of_some _ e
    refine block_PT (Walks.list hh s₁.heap.objs.size ax (Nat.ne_of_lt hlt) its) hsz (fun i h st => by obtain ⟨o, e, _⟩ := st.1; exact ⟨o, e⟩) list_st hcell hkind hx hx₂ hxx hh (fun i h st => ⟨_, _, st.1⟩) ⟨⟨_, Heap.get?_push_size _ rfl, rfl, rfl⟩, hl.push _⟩ (fun b hb => ?_)
      (F.keeps up) (N.grown up) (Nat.ne_of_lt F.ns.lt) (next_is_new F) (fun p hp => Nat.ne_of_lt (Heap.lt_size (N p hp).1)) S (R _ ⟨_, rfl⟩).1 hJ ?_
    · show b < (s₁.heap.push _).objs.size
      rw [Heap.size_push]
      rcases List.mem_cons.mp hb with rfl | hb
      · exact Nat.lt_succ_self _
      · rw [List.mem_singleton.mp hb]; exact Nat.lt_succ_of_lt hlt
    · intro D C h' tk m' ys news' F' N' o1 hn hC₀ hD₀ hCL hDL hCD offC fin
      refine ⟨m', hn, fun h'' hs'' => (R s₁ ⟨s₁.heap, rfl⟩).2 _ _ fin D h'' tk (F'.change hs'' hCL hC₀) (fun p hp => ?_) o1⟩
      refine ⟨hs''.extBut _ _ ?_ (N' p hp).1, (N' p hp).2⟩
      rcases List.mem_cons.mp hp with rfl | hp
      · exact Ne.symm hCD
      · exact offC p hp
end
end Mine
end

-- G7
section
open PySem PySem.W PySem.W.X PyProof.Rows PySem.Calls PySem.Spec
set_option Elab.async false
set_option maxRecDepth 100000
set_option maxHeartbeats 400000
namespace Mine
section
variable {prog : Program} {w : World} {A : Around} {E : Value → Shared → Prop} {h₀ : Heap} {env : Env} {body : List Stmt} {Q : Flow → Shared → Prop} {s : Shared}
theorem iter_rangeTurns {x : Str} {px : Pos} {r : Addr} {a b : Int} {t u v : Tok} {n : Nat} {m₀ : Str → Option Value} {news : List (Addr × Obj)}
    (hh : A.handled = none) (F : Fr h₀ env.locals s.heap m₀) (N : News h₀ env.locals s.heap news) (hr : IsRange s.heap r a b 1 t u v) (hsm : Builtin.Range.small a b 1 = true) (hn : Builtin.Range.rangeSize a b 1 = ((n : Nat) : Int))
    (rest₀ : ∀ I : Addr, (∀ p ∈ news, p.1 < I) → ItemsRest prog w A E h₀ env (.Name x px) body Q s [(I, "range_iterator")] [] ((List.range n).map fun (i : Nat) => Itm.tok (fun t => .int (a + (i : Int)) t)) m₀ news) :
    wpAny (model prog w) A (pyIter (.ref r)) (fun it s₂ => TurnsAt prog w A h₀ env (.Name x px) body Q E it s₂) E s := by
  refine wpAny_pyIter_range hr hsm ?_
  refine ktu_core (tk0 := s.toks) (keep := []) (KTurns.ofWalks (Walks.range hh s.heap.objs.size a 1 n).bound fun i v s Q E st q => wpAny_pure q) (by simp) (fun i v h hp => ?_) (fun i h st => ?_) (fun b hb => ?_) (fun b hb => by simpa using hb) (fun b hb => ?_) ?_ (fun p hp hI => ?_) ?_ (F.push _) (fun p hp => ⟨Heap.get?_push_of_some _ (N p hp).1, (N p hp).2⟩) trivial (rest₀ _ fun p hp => Heap.lt_size (N p hp).1)
  · obtain ⟨hi, t, rfl⟩ := hp
    refine ⟨Itm.tok (fun t => .int (a + (i : Int)) t), by simp [hi], t, ?_⟩
    rw [Int.mul_one]
  · exact ⟨[(s.heap.objs.size, _)], ⟨⟨rfl, rfl⟩, trivial⟩, fun p hp => by rw [List.mem_singleton.mp hp]; exact st⟩
  · have hb' : b = s.heap.objs.size := by simpa using hb
    rw [hb']
    exact ⟨List.mem_cons_self .., next_is_new F⟩
  · have hb' : b = s.heap.objs.size := by simpa using hb
    exact .inl (by simp [hb'])
  · intro hI
    have hI' : env.locals = s.heap.objs.size := by simpa using hI
    exact absurd F.ns.lt (hI' ▸ Nat.lt_irrefl _)
  · exact absurd (Heap.lt_size (N p hp).1) ((List.mem_singleton.mp hI) ▸ Nat.lt_irrefl _)
  · show IsRangeIter _ _ _ _ _
    rw [hn]; simpa using Heap.get?_push_size _ rfl
end
end Mine
end

-- G8
section
open PySem PySem.W PySem.W.X PyProof.Rows PySem.Calls PySem.Spec
set_option Elab.async false
set_option maxRecDepth 100000
set_option maxHeartbeats 1000000
namespace Mine
section
variable {prog : Program} {w : World} {A : Around} {E : Value → Shared → Prop} {s : Shared}
theorem keys_none {a : Addr} {xs : Array Value} {k : Nat} {Q : Option Value → Shared → Prop} (hx : s.heap.get? a = some (seqObj "list" xs k)) (hA : A.handled = none)
    (h : ∀ h' tk, (∀ b o, s.heap.get? b = some o → h'.get? b = some o) → Q none { s with heap := h', toks := tk }) : wpAny (model prog w) A (getAttr? (.ref a) "keys") Q E s := by
  have hmiss : typeLookup (.type "list") "keys" = pure none := am_miss_of_fast (by decide +kernel)
  have hname : (["__module__", "__name__", "__qualname__", "__doc__", "__annotations__"] : List Str).contains "keys" = false := by decide +kernel
  obtain ⟨hp, g, d, tk, os⟩ := s
  have hT : ∀ tk', (⟨hp, g, d, tk', os⟩ : Shared).TypeIs (.ref a) "list" := fun _ => ⟨_, hx, rfl⟩
  have f1 := sub_AttributeError
  have f3 := PySem.F.slot_list_getattribute.lookup
  have f4 := PySem.F.slot_list_getattribute.bind (.ref a)
  have f5 := am_list_getattr_none
  unfold getAttr? getAttrBy? getAttrBy
  repeat (any_goals (first | assumption | exact hT _ | ((with_reducible show wpAny _ _ (call (Value.builtin "list.__getattribute__") _ _) _ _ _); refine call_meets PySem.F.slot_list_getattribute (hT _) am_entry_list_getattribute (PySem.F.args_list_getattribute_2 _ _) (meets_getattribute_miss_list a xs k #[] "keys" _ hmiss hname (by size_fits)) ⟨hx, hA, fun h' tk' e hx' => ?_⟩) | wp_step))
  obtain ⟨t', u', he⟩ := hx'.there
  show wpAny _ _ (getattributeRaised _ _ _ _ _ _ _) _ _ _
  unfold getattributeRaised
  repeat (any_goals (first | assumption | wp_step))
  exact h _ _ hx'.keeps
end
end Mine
end

-- G9
section
open PySem PySem.W PySem.W.X PyProof.Rows PySem.Calls PySem.Spec
set_option Elab.async false
set_option maxRecDepth 100000
set_option maxHeartbeats 1000000
namespace Mine
section
variable {prog : Program} {w : World} {A : Around} {E : Value → Shared → Prop} {s : Shared}
theorem entry_upd_loop : entryFor table "dict.update.loop" = some Builtin.«dict.update.loop» := entryFor_of_fast (by kernel_rfl)
theorem plain_upd_loop : plainId "dict.update.loop" = true := by decide +kernel
variable {K : Type} [DecidableEq K] {knd : PySem.KeyKind prog w K}
def Built (acc : List (K × Value)) (kvs : List (K × Value)) : List (K × Value) := kvs.foldl (fun a kv => stored a kv.1 kv.2) acc
theorem upd_loop {d I ax : Addr} {vs : List Value} {kvs : List (K × Value)} {h1 : Heap} (hh : A.handled = none) (hlen : kvs.length = vs.length) (h64 : vs.length ≤ 1000) (hId : I ≠ d) (hxd : ax ≠ d) (hxI : ax ≠ I)
    (hel : ∀ i (hi : i < vs.length) (hi' : i < kvs.length), ∃ t a n, vs[i] = .ref t ∧ h1.get? t = some (seqObj "tuple" #[a, (kvs[i]).2] n) ∧ t ≠ d ∧ t ≠ I ∧ knd.is (kvs[i]).1 a = true) {R : Result → Shared → Prop} :
    ∀ k i (s : Shared) (acc : List (K × Value)), i + k = vs.length → s.heap.IsListIter I ax i → s.heap.IsList ax vs.toArray → s.heap.DictOf knd d acc → (∀ b o, b ≠ d → b ≠ I → h1.get? b = some o → s.heap.get? b = some o) → acc.length ≤ i →
      (∀ h' tk, h'.DictOf knd d (Built acc (kvs.drop i)) → (∀ b o, b ≠ d → b ≠ I → h1.get? b = some o → h'.get? b = some o) → R (.ok (.ret .none)) { s with heap := h', toks := tk }) →
      codeAny (model prog w) A (.builtin "dict.update.loop" ⟨[.ref d, .ref I, rawInt (i : Int), .none], []⟩) R s := by
  intro k
  induction k with
  | zero =>
    intro i s acc hi hit hl hd hk hal hR
    refine codeAny_builtin entry_upd_loop ?_
    rw [Around.under_plainId plain_upd_loop _]
    unfold Builtin.«dict.update.loop»
    dsimp only [rawInt]
    refine wpAny_bind (wpAny_pyNext_list_end (A := A.in1) hh hit hl (by simp; omega) fun h' he' => ?_)
    refine wpAny_bind (m := Builtin.Dict.addKeywords d []) (wpAny_pure (wpAny_pure ?_))
    have e : kvs.drop i = [] := List.drop_eq_nil_of_le (by omega)
    have := hR h' s.toks (by rw [e]; exact hd.at fun o e => he' d o hId.symm e) (fun b o hb hb' e => he' b o hb' (hk b o hb hb' e))
    exact this
  | succ k ih =>
    intro i s acc hi hit hl hd hk hal hR
    have hi1 : i < vs.length := by omega
    have hi2 : i < kvs.length := by omega
    obtain ⟨t, a, n, e1, e2, e3, e4, e5⟩ := hel i hi1 hi2
    refine codeAny_builtin entry_upd_loop ?_
    rw [Around.under_plainId plain_upd_loop _]
    unfold Builtin.«dict.update.loop»
    dsimp only [rawInt]
    refine wpAny_bind (wpAny_pyNext_list_item (A := A.in1) hit hl (x := .ref t) (by simp [hi1, e1]) fun h' hit' hs' => ?_)
    refine wpAny_bind (wpAny_holding ?_)
    have ht : h'.get? t = some (seqObj "tuple" #[a, (kvs[i]).2] n) := hs'.extBut t _ e4 (hk t _ e3 e4 e2)
    have hp : ∀ (Q' : List Value → Shared → Prop) (E' : Value → Shared → Prop), Q' [a, (kvs[i]).2] { s with heap := h' } → wpAny (model prog w) A.in1 (Builtin.Dict.pairItems (.ref t)) Q' E' { s with heap := h' } := fun Q' E' q => by
      unfold Builtin.Dict.pairItems
      refine wpAny_bind (wpAny_typeOf (T := "tuple") ⟨_, ht, rfl⟩ ?_)
      rw [if_pos (by decide)]
      refine wpAny_bind ?_
      unfold seqItems?
      exact wpAny_bind (wpAny_load ht (wpAny_pure (wpAny_pure q)))
    refine wpAny_bind (wpAny_tryCatch (hp _ _ ?_))
    dsimp only
    refine wpAny_holding ?_
    refine wpAny_dictSet_pairs e5 (hd.at fun o e => hs'.extBut d o hId.symm e) (fun h2 hd2 hs2 => ?_) (by rw [sizeLine_eq]; omega)
    refine wpAny_pure ⟨Code.quiet_builtin _ (by decide +kernel), ?_⟩
    have ec : (Value.int ((i : Int) + 1) 0) = rawInt ((i + 1 : Nat) : Int) := rfl
    rw [ec]
    refine ih (i + 1) _ (stored acc (kvs[i]).1 (kvs[i]).2) (by omega) ?_ ?_ hd2 ?_ ?_ ?_
    · exact hit'.at fun o e => hs2.extBut I o hId e
    · exact (hl.at fun o e => hs'.extBut ax o hxI e).at fun o e => hs2.extBut ax o hxd e
    · exact fun b o hb hb' e => hs2.extBut b o hb (hs'.extBut b o hb' (hk b o hb hb' e))
    · exact Nat.le_trans (stored_length_le _ _ _) (Nat.succ_le_succ hal)
    · intro h3 tk3 hd3 hk3
      refine hR h3 tk3 ?_ hk3
      rw [List.drop_eq_getElem_cons hi2]
      exact hd3

theorem call_dict_list {ax : Addr} {vs : List Value} {kvs : List (K × Value)} {c : Nat} {Q : Value → Shared → Prop} (hh : A.handled = none) (hl : s.heap.get? ax = some (seqObj "list" vs.toArray c)) (hlen : kvs.length = vs.length) (h64 : vs.length ≤ 1000)
    (hel : ∀ i (hi : i < vs.length) (hi' : i < kvs.length), ∃ t a n, vs[i] = .ref t ∧ s.heap.get? t = some (seqObj "tuple" #[a, (kvs[i]).2] n) ∧ knd.is (kvs[i]).1 a = true)
    (h : ∀ h' tk, h'.DictOf knd s.heap.objs.size (Built [] kvs) → (∀ b o, s.heap.get? b = some o → h'.get? b = some o) → Q (.ref s.heap.objs.size) { s with heap := h', toks := tk }) :
    wpAny (model prog w) A (call (.type "dict") [.ref ax]) Q E s := by
  refine callType_codes (Q₁ := fun obj s₁ => obj = .ref s.heap.objs.size ∧ s₁ = { s with heap := s.heap.push { cls := .type "dict", data := .dict #[] } }) PySem.F.kt_called_dict (PySem.F.kt_typeCall_dict_1 _) PySem.F.entry_dict_init (kt_code_dict_new _ ⟨rfl, rfl⟩) ?_
  rintro obj s₁ ⟨rfl, rfl⟩
  have hnew : (s.heap.push { cls := .type "dict", data := .dict #[] }).DictOf knd s.heap.objs.size [] := Heap.DictOf.new s.heap
  have hl1 : (s.heap.push { cls := .type "dict", data := .dict #[] }).get? ax = some (seqObj "list" vs.toArray c) := Heap.get?_push_of_some _ hl
  refine ⟨hnew.typeIs, PySem.F.args_dict_init_2 _ _, ?_⟩
  unfold Builtin.«dict.__init__»
  refine wpAny_bind ?_
  unfold Builtin.Dict.selfAndRest
  refine wpAny_bind (wpAny_notOrdered_dict hnew.typeIs ?_)
  show wpAny _ _ (pure (s.heap.objs.size, [Value.ref ax])) _ _ _
  refine wpAny_pure ?_
  show wpAny _ _ (Builtin.Dict.updateFrom "dict.__init__" s.heap.objs.size (.ref ax) [] .none) _ _ _
  unfold Builtin.Dict.updateFrom
  refine wpAny_bind (wpAny_typeOf (T := "list") ⟨_, hl1, rfl⟩ ?_)
  rw [if_pos (by decide)]
  refine wpAny_bind (keys_none hl1 hh fun h2 tk2 hk2 => ?_)
  rw [if_pos (show (none : Option Value).isNone = true from rfl)]
  refine wpAny_bind (wpAny_rule ?_)
  have lt1 : ∀ b o, s.heap.get? b = some o → b < s.heap.objs.size := fun b o e => Heap.lt_size e
  have lt2 : s.heap.objs.size < h2.objs.size := by
    obtain ⟨_, _, _, hg, _⟩ := hnew
    exact Heap.lt_size (hk2 _ _ hg)
  have hl2 := hk2 _ _ hl1
  have hla : h2.IsList ax vs.toArray := ⟨_, hl2, rfl, _, rfl⟩
  refine wpAny_bind (wpAny_pyIter_list hla ?_)
  refine wpAny_pure ⟨Code.quiet_builtin _ (by decide +kernel), ?_⟩
  have keep : ∀ b o, s.heap.get? b = some o → (h2.push { cls := .type "list_iterator", data := .fields #[.ref ax, .int 0 0] }).get? b = some o := fun b o e => Heap.get?_push_of_some _ (hk2 _ _ (Heap.get?_push_of_some _ e))
  have hnd : ∀ b o, s.heap.get? b = some o → b ≠ s.heap.objs.size ∧ b ≠ h2.objs.size := fun b o e => ⟨Nat.ne_of_lt (lt1 b o e), Nat.ne_of_lt (Nat.lt_trans (lt1 b o e) lt2)⟩
  refine upd_loop (A := A.in1) (knd := knd) (h1 := s.heap) (vs := vs) (kvs := kvs) (ax := ax) hh hlen h64 (Nat.ne_of_gt lt2) (hnd _ _ hl).1 (hnd _ _ hl).2 (fun i hi hi' => ?_) vs.length 0 _ [] (by omega) ?_ ?_ ?_ ?_ (Nat.le_refl _) fun h3 tk3 hd3 hk3 => ?_
  · obtain ⟨t, a, n, e1, e2, e3⟩ := hel i hi hi'
    exact ⟨t, a, n, e1, e2, (hnd _ _ e2).1, (hnd _ _ e2).2, e3⟩
  · exact ⟨_, Heap.get?_push_size _ rfl, rfl, rfl⟩
  · exact ⟨_, keep _ _ hl, rfl, _, rfl⟩
  · exact hnew.at fun o e => Heap.get?_push_of_some _ (hk2 _ o e)
  · exact fun b o _ _ e => keep b o e
  · rw [List.drop_zero] at hd3
    exact ⟨rfl, h h3 tk3 hd3 fun b o e => hk3 b o (hnd b o e).1 (hnd b o e).2 e⟩
end
end Mine
end

-- G10
section
open PySem PySem.W PySem.W.X PyProof.Rows PySem.Calls PySem.Spec
set_option Elab.async false
set_option maxRecDepth 100000
set_option maxHeartbeats 1000000
namespace Mine
def slt (a b : Str) : Prop := a.cps.toList < b.cps.toList
section
variable {prog : Program} {w : World} {A : Around} {E : Value → Shared → Prop} {s : Shared} {h₀ : Heap} {L : Addr} {m : Str → Option Value} {news : List (Addr × Obj)}
def kfOf (kvs : List (Str × Value)) (i : Nat) : Str := ((kvs[i]?).map (·.1)).getD ⟨#[]⟩
def ksStr (kvs : List (Str × Value)) (i : Nat) : Int × Str × Nat := (0, kfOf kvs i, i)
theorem kfOf_at {kvs : List (Str × Value)} {i : Nat} {p : Str × Value} (h : kvs[i]? = some p) : kfOf kvs i = p.1 := by unfold kfOf; rw [h]; rfl
theorem kfOf_range (kvs : List (Str × Value)) : (List.range kvs.length).map (kfOf kvs) = kvs.map (·.1) := by
  refine List.ext_getElem (by simp) fun i h1 h2 => ?_
  have hi : i < kvs.length := by simpa using h1
  simp [kfOf, hi]
theorem kfOf_inj {kvs : List (Str × Value)} (nd : (kvs.map (·.1)).Nodup) {i j : Nat} (hi : i < kvs.length) (hj : j < kvs.length) (h : kfOf kvs i = kfOf kvs j) : i = j := by
  rw [kfOf_at (List.getElem?_eq_getElem hi), kfOf_at (List.getElem?_eq_getElem hj)] at h
  have hi' : i < (kvs.map (·.1)).length := by simpa using hi
  have e : (kvs.map (·.1))[i]? = (kvs.map (·.1))[j]? := by simp [hi, hj, h]
  exact (List.getElem?_inj hi' nd).mp e
theorem sorted_dict {d : Addr} {kvs : List (Str × Value)} {Q : Value → Shared → Prop} (hh : A.handled = none) (F : Fr h₀ L s.heap m) (N : News h₀ L s.heap news) (lo : (d == sysModules) = false) (hm : s.heap.DictOf (PySem.strKind prog w) d kvs) (h64 : kvs.length < 64)
    (h : ∀ D c h' tk (us : List Value) (ws : List Str), Fr h₀ L h' m → News h₀ L h' ((D, seqObj "list" us.toArray c) :: news) → (∀ q ∈ news, q.1 < D) → us.length = ws.length → (∀ (j : Nat) x, ws[j]? = some x → ∃ t, us[j]? = some (.str x t)) → ws.Pairwise slt → ws.length = kvs.length → (∀ x, x ∈ ws ↔ x ∈ kvs.map (·.1)) → Q (.ref D) { s with heap := h', toks := tk }) :
    wpAny (model prog w) A (call (.builtin "sorted") [.ref d]) Q E s := by
  obtain ⟨ep, hat⟩ := hm.dictAt
  have nd : (kvs.map (·.1)).Nodup := let ⟨_, _, _, _, _, _, _, _, hn⟩ := hm; hn
  refine kdu_sorted (kdl_dict (knd := PySem.strKind prog w) (kvs := kvs) (ep := ep) lo) hh F N hat (by rw [sizeLine_eq]; omega) fun D h' tk vs F' N' lt hl hv => ?_
  have hv' : ∀ i, i < vs.length → ∃ t, vs.getD i Value.none = .str (kfOf kvs i) t := fun i hi => by
    obtain ⟨k, x, e1, e2⟩ := hv i _ (List.getElem?_eq_getElem hi)
    obtain ⟨t, e3⟩ := Value.isStrOf_shape e2
    exact ⟨t, by rw [List.getD_eq_getElem?_getD, List.getElem?_eq_getElem hi, Option.getD_some, e3, kfOf_at e1]⟩
  by_cases h2 : 2 ≤ vs.length
  · have hT : ∀ v ∈ vs, ∃ x t, v = .str x t := fun v hv9 => by
      obtain ⟨i, hi, rfl⟩ := List.getElem_of_mem hv9
      obtain ⟨t, e⟩ := hv' i hi
      rw [List.getD_eq_getElem?_getD, List.getElem?_eq_getElem hi, Option.getD_some] at e
      exact ⟨_, _, e⟩
    refine kas_lsort (vs := vs) (T := .type "str") F' N' (UpdF.head fun q hq => Nat.ne_of_lt (lt q hq)) (by simp) h2 (by omega) (fun e1 h9 _ _ v hv9 => ?_) (by decide) fun e1 h9 F9 N9 => ?_
    · obtain ⟨x, t, rfl⟩ := hT v hv9
      exact Looks.of_pure rfl
    · refine sort_wp (lt := rlt (ksStr kvs)) (rlt_ok fun i => rfl) (fun i j C hi hj hij hC => ?_) (by omega) fun p hp ha => ?_
      · obtain ⟨t, e⟩ := hv' i hi
        obtain ⟨u, e'⟩ := hv' j hj
        unfold kas_ask
        rw [e, e']
        refine kas_lt_str ?_
        have hne : kfOf kvs i ≠ kfOf kvs j := fun q => hij (kfOf_inj nd (by omega) (by omega) q)
        have e9 : rlt (ksStr kvs) i j = decide ((kfOf kvs i).cps.toList < (kfOf kvs j).cps.toList) := by
          unfold rlt ksStr
          rw [if_pos rfl]
          exact if_neg hne
        rw [← e9]; exact hC
      · refine KasFin.intro F9 N9 (UpdF.head fun q hq => Nat.ne_of_lt (lt q hq)) fun h'' c F'' N'' => ?_
        have hps := Gd.size hp
        have hb : ∀ i ∈ p.toList, i < vs.length := fun i hi => List.mem_range.mp (hp.mem_iff.mp hi)
        refine h D c h'' tk (p.toList.map fun i => vs.getD i Value.none) (p.toList.map (kfOf kvs)) F'' N'' lt (by simp) (fun j x hx => ?_) ?_ (by rw [List.length_map, Array.length_toList, hps, hl]) fun x => ?_
        · rw [List.getElem?_map] at hx
          obtain ⟨i, hi, rfl⟩ := Option.map_eq_some_iff.mp hx
          obtain ⟨t, e⟩ := hv' i (hb i (List.mem_of_getElem? hi))
          exact ⟨t, by rw [List.getElem?_map, hi, Option.map_some, e]⟩
        · rw [List.pairwise_map, List.pairwise_iff_getElem]
          intro i j hi hj hij
          have hi' : i < p.size := by simpa using hi
          have hj' : j < p.size := by simpa using hj
          have h9 := ha i j hij (by omega)
          rw [rlt_iff] at h9
          have e1 : p.getD i 0 = p.toList[i] := by simp [Array.getD, hi']
          have e2 : p.getD j 0 = p.toList[j] := by simp [Array.getD, hj']
          rw [e1, e2] at h9
          rcases h9 with h9 | ⟨_, h9 | ⟨h9, h8⟩⟩
          · exact absurd h9 (Int.lt_irrefl _)
          · exact h9
          · have := kfOf_inj nd (by rw [← hl]; exact hb _ (List.getElem_mem hi)) (by rw [← hl]; exact hb _ (List.getElem_mem hj)) h9
            exact absurd h8 (by show ¬ (p.toList[i] < p.toList[j]); omega)
        · rw [← kfOf_range kvs, ← hl]
          exact (hp.map (kfOf kvs)).mem_iff
  · have nD := N' _ (.head _)
    refine wpAny_call_entry slot_list_sort ⟨_, nD.1, rfl⟩ entry_list_sort ?_ (args_list_sort _)
    refine short_sort (vs := vs) F' (fun p hp => N' p (.tail _ hp)) nD.1 nD.2.1 nD.2.2 (fun p hp => Nat.ne_of_lt (lt p hp)) (by omega) fun h'' c F'' N'' => ?_
    refine ⟨_, rfl, h D c h'' tk vs (kvs.map (·.1)) F'' N'' lt (by simpa using hl) (fun j x hx => ?_) ?_ (by simp) fun x => Iff.rfl⟩
    · rw [List.getElem?_map] at hx
      obtain ⟨i, hi, rfl⟩ := Option.map_eq_some_iff.mp hx
      have hj : j < vs.length := by rw [hl]; exact (List.getElem?_eq_some_iff.mp hi).1
      obtain ⟨t, e⟩ := hv' j hj
      rw [List.getD_eq_getElem?_getD, List.getElem?_eq_getElem hj, Option.getD_some, kfOf_at hi] at e
      exact ⟨t, by rw [List.getElem?_eq_getElem hj, e]⟩
    · rw [hl] at h2
      match kvs, h2 with
      | [], _ => exact List.Pairwise.nil
      | [v], _ => exact List.pairwise_singleton _ _
      | _ :: _ :: _, h2 => exact absurd (Nat.le_add_left 2 _) h2
end
end Mine
end

-- G11
section
open PySem PySem.W PySem.W.X PyProof.Rows PySem.Calls PySem.Spec
set_option Elab.async false
set_option maxRecDepth 100000
set_option maxHeartbeats 400000
namespace Mine
section
variable {K : Type} [DecidableEq K]
theorem stored_keys (acc : List (K × Value)) (k : K) (v : Value) (x : K) : x ∈ (stored acc k v).map (·.1) ↔ x ∈ acc.map (·.1) ∨ x = k := by
  unfold stored
  by_cases h : acc.any (fun kv => kv.1 = k) = true
  · rw [if_pos h]
    have e : (acc.map (fun kv => if kv.1 = k then (kv.1, v) else kv)).map (·.1) = acc.map (·.1) := by
      rw [List.map_map]
      refine List.map_congr_left fun a _ => ?_
      show (if a.1 = k then (a.1, v) else a).1 = a.1
      split <;> rfl
    rw [e]
    refine ⟨.inl, fun q => q.elim id fun q => ?_⟩
    subst q
    obtain ⟨a, ha, e⟩ := List.any_eq_true.mp h
    exact List.mem_map.mpr ⟨a, ha, by simpa using e⟩
  · rw [if_neg h]
    simp
theorem built_keys (kvs : List (K × Value)) : ∀ (acc : List (K × Value)) (x : K), x ∈ (Built acc kvs).map (·.1) ↔ x ∈ acc.map (·.1) ∨ x ∈ kvs.map (·.1) := by
  induction kvs with
  | nil => intro acc x; simp [Built]
  | cons p r ih =>
    intro acc x
    have := ih (stored acc p.1 p.2) x
    show x ∈ (Built (stored acc p.1 p.2) r).map (·.1) ↔ _
    rw [this, stored_keys, List.map_cons, List.mem_cons, or_assoc]
theorem built_len (kvs : List (K × Value)) : ∀ (acc : List (K × Value)), (Built acc kvs).length ≤ acc.length + kvs.length := by
  induction kvs with
  | nil => intro acc; simp [Built]
  | cons p r ih =>
    intro acc
    refine Nat.le_trans (ih (stored acc p.1 p.2)) ?_
    have := stored_length_le acc p.1 p.2
    rw [List.length_cons]; omega
end
def ixAt (P : Nat → Bool) (i : Nat) : List Nat := (List.range i).filter P
theorem ixAt_succ (P : Nat → Bool) (i : Nat) : ixAt P (i + 1) = ixAt P i ++ (if P i = true then [i] else []) := by
  unfold ixAt
  rw [List.range_succ, List.filter_append]
  congr 1
  cases h : P i <;> simp [h]
theorem ixAt_len (P : Nat → Bool) (i : Nat) : (ixAt P i).length ≤ i := Nat.le_trans (List.length_filter_le _ _) (by simp)
theorem ixAt_mem {P : Nat → Bool} {n k : Nat} : k ∈ ixAt P n ↔ k < n ∧ P k = true := by simp [ixAt]
theorem ixAt_head {P : Nat → Bool} {n k : Nat} (hk : k < n) (hP : P k = true) : ∃ i r, ixAt P n = i :: r ∧ i < n ∧ P i = true ∧ ∀ j, j < n → P j = true → i ≤ j := by
  cases h : ixAt P n with
  | nil => have := ixAt_mem.mpr ⟨hk, hP⟩; rw [h] at this; exact absurd this List.not_mem_nil
  | cons i r =>
    have hi := ixAt_mem.mp (show i ∈ ixAt P n by rw [h]; exact .head _)
    refine ⟨i, r, rfl, hi.1, hi.2, fun j hj hPj => ?_⟩
    have hjm := ixAt_mem.mpr ⟨hj, hPj⟩
    have pw : (ixAt P n).Pairwise (· < ·) := List.Pairwise.filter _ List.pairwise_lt_range
    rw [h] at hjm pw
    rcases List.mem_cons.mp hjm with rfl | hjm
    · exact Nat.le_refl _
    · exact Nat.le_of_lt ((List.pairwise_cons.mp pw).1 j hjm)
def PP (ks : Nat → Int × Str × Nat) (j : Int) (pre : List Str) (i : Nat) : Prop := (ks i).1 < j ∨ ((ks i).1 = j ∧ (ks i).2.1 ∈ pre)
structure SelIx (n : Nat) (ks : Nat → Int × Str × Nat) (P : Nat → Prop) (out : List Nat) : Prop where
  srt : out.Pairwise fun i j => klt (ks i) (ks j)
  mem : ∀ i ∈ out, i < n ∧ P i ∧ ∀ j, j < n → ksame (ks j) (ks i) → i ≤ j
  all : ∀ i, i < n → P i → ∃ j ∈ out, ksame (ks j) (ks i)
section
variable {n : Nat} {ks : Nat → Int × Str × Nat} {out : List Nat}
theorem SelIx.start (h : ∀ i, i < n → 0 ≤ (ks i).1) : SelIx n ks (PP ks 0 []) [] :=
  ⟨List.Pairwise.nil, fun _ q => absurd q List.not_mem_nil, fun i hi hP => by
    rcases hP with hP | ⟨_, hP⟩
    · have := h i hi; omega
    · exact absurd hP List.not_mem_nil⟩
theorem SelIx.add {j : Int} {pre : List Str} {x : Str} {i0 : Nat} (H : SelIx n ks (PP ks j pre) out) (hpre : ∀ y ∈ pre, slt y x) (hi : i0 < n) (h1 : (ks i0).1 = j) (h2 : (ks i0).2.1 = x) (hmin : ∀ k, k < n → ksame (ks k) (ks i0) → i0 ≤ k) :
    SelIx n ks (PP ks j (pre ++ [x])) (out ++ [i0]) where
  srt := by
    rw [List.pairwise_append]
    refine ⟨H.srt, List.pairwise_singleton _ _, fun a ha b hb => ?_⟩
    rw [List.mem_singleton.mp hb]
    rcases (H.mem a ha).2.1 with h | ⟨h, h'⟩
    · exact .inl (by rw [h1]; exact h)
    · exact .inr ⟨by rw [h, h1], by rw [h2]; exact hpre _ h'⟩
  mem := fun i hi' => by
    rcases List.mem_append.mp hi' with hi' | hi'
    · obtain ⟨a, b, c⟩ := H.mem i hi'
      exact ⟨a, b.elim .inl fun q => .inr ⟨q.1, List.mem_append_left _ q.2⟩, c⟩
    · rw [List.mem_singleton.mp hi']
      exact ⟨hi, .inr ⟨h1, by rw [h2]; simp⟩, hmin⟩
  all := fun i hi' hP => by
    have old : PP ks j pre i → ∃ a ∈ out ++ [i0], ksame (ks a) (ks i) := fun q => let ⟨a, ha, e⟩ := H.all i hi' q; ⟨a, List.mem_append_left _ ha, e⟩
    rcases hP with h | ⟨h, h'⟩
    · exact old (.inl h)
    · rcases List.mem_append.mp h' with h' | h'
      · exact old (.inr ⟨h, h'⟩)
      · exact ⟨i0, by simp, by rw [h1, h], by rw [h2, List.mem_singleton.mp h']⟩
theorem SelIx.next {j : Int} {ws : List Str} (H : SelIx n ks (PP ks j ws) out) (hws : ∀ i, i < n → (ks i).1 = j → (ks i).2.1 ∈ ws) : SelIx n ks (PP ks (j + 1) []) out where
  srt := H.srt
  mem := fun i hi => by
    obtain ⟨a, b, c⟩ := H.mem i hi
    refine ⟨a, .inl ?_, c⟩
    rcases b with b | ⟨b, _⟩ <;> omega
  all := fun i hi hP => by
    refine H.all i hi ?_
    rcases hP with h | ⟨_, h⟩
    · by_cases e : (ks i).1 = j
      · exact .inr ⟨e, hws i hi e⟩
      · exact .inl (by omega)
    · exact absurd h List.not_mem_nil
theorem SelIx.fin {j : Int} (H : SelIx n ks (PP ks j []) out) (h : ∀ i, i < n → (ks i).1 < j) : OnceIx n ks out :=
  ⟨H.srt, fun i hi => let ⟨a, _, c⟩ := H.mem i hi; ⟨a, c⟩, fun i hi => H.all i hi (.inl (h i hi))⟩
end
end Mine
end

-- C0
section
open PySem PySem.W PySem.W.X PyProof.Rows PySem.Calls PySem.Spec
set_option Elab.async false
set_option maxRecDepth 100000
set_option maxHeartbeats 0
namespace Mine
noncomputable abbrev LZ := looseW VW [Str.ofString "LendError", Str.ofString "BorrowFault"]
theorem fm_lo (a b : Int) (h : 0 < b) : 0 ≤ a.fmod b := by rw [Int.fmod_eq_emod_of_nonneg _ (by omega)]; exact Int.emod_nonneg _ (by omega)
theorem fm_hi (a b : Int) (h : 0 < b) : a.fmod b < b := by rw [Int.fmod_eq_emod_of_nonneg _ (by omega)]; exact Int.emod_lt_of_pos _ h
theorem fd_lo (a b : Int) (ha : 0 ≤ a) (h : 0 < b) : 0 ≤ a.fdiv b := by rw [Int.fdiv_eq_ediv_of_nonneg _ (by omega)]; exact Int.ediv_nonneg ha (by omega)
theorem mulok (a b : Int) : IntMulOk (a.fmod 2147483647) b := by
  have h1 := fm_lo a 2147483647 (by omega)
  have h2 := fm_hi a 2147483647 (by omega)
  exact IntMulOk.of_left (intBits_le_64 (by omega) (by omega))
section
variable {w : World} {mean : ExcName → Option Value} {mg mb : Str → Option Value}
local macro_rules | `(tactic| k_all) => `(tactic| assumption)
local macro_rules | `(tactic| walk_at "binaryOp Mult int int") => `(tactic| (refine mul_int ?_ (hm := ?hm); (case hm => exact mulok _ _)))
theorem take_spec {dp un : Nat} {gd : Option (List Code)} {cn : Str} {cs : Scope} {L a : Addr} {ccd : Value} {cl : List (Str × Addr)} {outer : List Env} {A₀ : Around} {base h₀ : Heap} {m : Str → Option Value} {s : Shared} {Q E : Value → Shared → Prop}
  {src : Addr} {x y top : Int} {tx ty tt : Tok} {n : Nat} {rest : List (Addr × Obj)}
  (B : Below A₀ base outer h₀) (F : Fr h₀ L s.heap m) (X : (topk.heap_1 w.params).In h₀) (N : News h₀ L s.heap ((src, seqObj "list" #[.int x tx, .int y ty] n) :: rest)) (hne : ∀ p ∈ rest, p.1 ≠ src)
  (T : Top VW LZ mean mg mb h₀) (hk : cs.kind = .function) (hd : dp + 1 < recursionLimit) (hu : un + 8 < cLine)
  (hx : 0 ≤ x) (hy : 0 ≤ y) (hy2 : y < 2147483647) (ht : 0 < top) (ht2 : top ≤ 100)
  (ret : ∀ d td x' tx' y' ty' h' tk', 0 ≤ d → d < top → 0 ≤ x' → 0 ≤ y' → y' < 2147483647 → Fr h₀ L h' m → News h₀ L h' ((src, seqObj "list" #[.int x' tx', .int y' ty'] n) :: rest) → Q (.int d td) { s with heap := h', toks := tk' }) :
  wpAny (model PR w) (ktrTop dp un gd cn cs L a ccd cl outer) (call (.ref 221) [.ref src, .int top tt]) Q E s := by
  refine wpAny_call ?_
  k_dflt ktr_enter
  k_steps
  · refine ret _ _ _ _ _ _ _ _ ?_ ?_ ?_ ?_ ?_ (by assumption) (by assumption)
    · exact fm_lo _ _ ht
    · exact fm_hi _ _ ht
    · exact fd_lo _ _ hx ht
    · exact hy
    · exact hy2
  · refine ret _ _ _ _ _ _ _ _ ?_ ?_ ?_ ?_ ?_ (by assumption) (by assumption)
    · exact fm_lo _ _ ht
    · exact fm_hi _ _ ht
    · exact hx
    · exact fm_lo _ _ (by omega)
    · exact fm_hi _ _ (by omega)

def SrcOk (o : Obj) : Prop := ∃ x tx y ty n, o = seqObj "list" #[.int x tx, .int y ty] n ∧ 0 ≤ x ∧ 0 ≤ y ∧ y < 2147483647
theorem take_use {dp un : Nat} {gd : Option (List Code)} {cn : Str} {cs : Scope} {L a : Addr} {ccd : Value} {cl : List (Str × Addr)} {outer : List Env} {A₀ : Around} {base h₀ : Heap} {m : Str → Option Value} {s : Shared} {Q E : Value → Shared → Prop}
  {src : Addr} {o : Obj} {top : Int} {tt : Tok} {rest : List (Addr × Obj)}
  (B : Below A₀ base outer h₀) (F : Fr h₀ L s.heap m) (X : (topk.heap_1 w.params).In h₀) (T : Top VW LZ mean mg mb h₀) (hk : cs.kind = .function) (hd : dp + 1 < recursionLimit) (hu : un + 8 < cLine)
  (N : News h₀ L s.heap ((src, o) :: rest)) (hne : ∀ p ∈ rest, p.1 ≠ src) (hs : SrcOk o) (ht : 0 < top) (ht2 : top ≤ 100)
  (ret : ∀ d td o' h' tk', 0 ≤ d → d < top → SrcOk o' → Fr h₀ L h' m → News h₀ L h' ((src, o') :: rest) → Q (.int d td) { s with heap := h', toks := tk' }) :
  wpAny (model PR w) (ktrTop dp un gd cn cs L a ccd cl outer) (call (.ref 221) [.ref src, .int top tt]) Q E s := by
  obtain ⟨x, tx, y, ty, n, rfl, hx, hy, hy2⟩ := hs
  exact take_spec B F X N hne T hk hd hu hx hy hy2 ht ht2 fun d td x' tx' y' ty' h' tk' a1 a2 a3 a4 a5 F' N' => ret d td _ h' tk' a1 a2 ⟨_, _, _, _, _, rfl, a3, a4, a5⟩ F' N'
end
end Mine
end

-- C1
section
open PySem PySem.W PySem.W.X PyProof.Rows PySem.Calls PySem.Spec
set_option Elab.async false
set_option maxRecDepth 100000
set_option maxHeartbeats 0
namespace Mine
section
variable {w : World} {mean : ExcName → Option Value} {mg mb : Str → Option Value}
local macro_rules | `(tactic| k_all) => `(tactic| assumption)
theorem one_spec {dp un : Nat} {gd : Option (List Code)} {cn : Str} {cs : Scope} {L a : Addr} {ccd : Value} {cl : List (Str × Addr)} {outer : List Env} {A₀ : Around} {base h₀ : Heap} {m : Str → Option Value} {s : Shared} {Q E : Value → Shared → Prop}
  {src th : Addr} {o : Obj} {vs : List Value} {n : Nat} {rest : List (Addr × Obj)}
  (B : Below A₀ base outer h₀) (F : Fr h₀ L s.heap m) (X : (topk.heap_1 w.params).In h₀) (T : Top VW LZ mean mg mb h₀) (hk : cs.kind = .function) (hd : dp + 2 < recursionLimit) (hu : un + 16 < cLine)
  (N : News h₀ L s.heap ((src, o) :: (th, seqObj "list" vs.toArray n) :: rest)) (hne : ∀ p ∈ (th, seqObj "list" vs.toArray n) :: rest, p.1 ≠ src) (hs : SrcOk o) (ht : 0 < vs.length) (ht2 : vs.length ≤ 100)
  (ret : ∀ v o' h' tk', v ∈ vs → SrcOk o' → Fr h₀ L h' m → News h₀ L h' ((src, o') :: (th, seqObj "list" vs.toArray n) :: rest) → Q v { s with heap := h', toks := tk' }) :
  wpAny (model PR w) (ktrTop dp un gd cn cs L a ccd cl outer) (call (.ref 228) [.ref src, .ref th]) Q E s := by
  refine wpAny_call ?_
  k_dflt ktr_enter
  k_steps
  (rename News _ _ _ _ => N9)
  refine len_list (News.isList N9 (.tail _ (.head _))) (by rw [List.size_toArray]; omega) ?_
  k_steps
  (rename News _ _ _ _ => N9); (rename Fr _ _ _ _ => F9)
  k_dflt (refine' take_use ?b1 F9 ?b2 ?b3 ?b4 ?b5 ?b6 N9 hne hs ?b7 ?b8 ?b9)
  case b1 => k_asm
  case b2 => k_asm
  case b3 => k_asm
  case b4 => exact rfl
  case b5 => ktr_room
  case b6 => ktr_units
  case b7 => rw [List.size_toArray]; omega
  case b8 => rw [List.size_toArray]; omega
  intro d td o' h' tk' a1 a2 hs' F9 N9
  have hz : (vs.toArray.size : Int) = vs.length := by simp
  rw [hz] at a2
  have hv : vs.toArray[d.toNat]? = some (vs[d.toNat]'(by omega)) := by simp
  refine item_list (News.isList N9 (.tail _ (.head _))) a1 (by omega) hv ?_
  k_steps
  refine ret _ _ _ _ (List.getElem_mem _) hs' (by assumption) (by assumption)
end
end Mine
end

-- C2
section
open PySem PySem.W PySem.W.X PyProof.Rows PySem.Calls PySem.Spec
set_option Elab.async false
set_option maxRecDepth 100000
set_option maxHeartbeats 0
namespace Mine
def AX : Around := { handled := none, depth := 400, frames := none, guards := none, units := 500 }
def excObj (C dx tp : Addr) : Obj := ⟨.ref C, some dx, .fields #[.ref tp, .none, .none, .none, .bool false, .none], #[]⟩
def sep : Str := Str.mk (Array.mk [58, 32])
def BPost (s : Shared) (k p : Str) (sp : Int) (tu : Addr) (r : Value) (s' : Shared) : Prop :=
  ∃ (f dx tp rt : Addr) (h' : Heap) (tk' : Nat) (es : List DictEntry) (n n' : Nat) (news : List (Addr × Obj)) (t1 t2 t3 : Tok), r = .ref f ∧ s' = ⟨h', s.gens, s.drawn, tk', s.os⟩ ∧ Mem s.heap h' [] news ∧ (f, excObj 155 dx tp) ∈ news ∧ (dx, dictOf es n) ∈ news ∧
    (rt, seqObj "tuple" #[.ref tu] n') ∈ news ∧ getL "message" es = some (some (.str (k ++ sep ++ p) t1)) ∧ getL "kind" es = some (some (.str k t2)) ∧ getL "spot" es = some (some (.int sp t3)) ∧ getL "rows" es = some (some (.ref rt))


theorem bpost_intro {s : Shared} {k p : Str} {sp : Int} {tu f dx tp rt : Addr} {h' : Heap} {tk' : Nat} {es : List DictEntry} {n n' : Nat} {news : List (Addr × Obj)} {t1 t2 t3 : Tok} (D : Mem s.heap h' [] news)
  (h1 : (f, excObj 155 dx tp) ∈ news) (h2 : (dx, dictOf es n) ∈ news) (h3 : (rt, seqObj "tuple" #[.ref tu] n') ∈ news) (h4 : getL "message" es = some (some (.str (k ++ sep ++ p) t1))) (h5 : getL "kind" es = some (some (.str k t2)))
  (h6 : getL "spot" es = some (some (.int sp t3))) (h7 : getL "rows" es = some (some (.ref rt))) : BPost s k p sp tu (.ref f) { heap := h', gens := s.gens, drawn := s.drawn, toks := tk', os := s.os } :=
  ⟨f, dx, tp, rt, h', tk', es, n, n', news, t1, t2, t3, rfl, rfl, D, h1, h2, h3, h4, h5, h6, h7⟩
local macro_rules | `(tactic| x_close) => `(tactic| (refine' bpost_intro (by assumption) ?a ?b ?c ?d ?e ?g ?h; (case a => (repeat (first | exact List.Mem.head _ | refine List.Mem.tail _ ?_))); (case b => (repeat (first | exact List.Mem.head _ | refine List.Mem.tail _ ?_))); (case c => (repeat (first | exact List.Mem.head _ | refine List.Mem.tail _ ?_))); (case d => with_unfolding_all rfl); (case e => with_unfolding_all rfl); (case g => with_unfolding_all rfl); (case h => with_unfolding_all rfl)))
noncomputable def obD (P : Params) : Data := (boot_o_0 P).data
theorem K_0 {P : Params} {h : Heap} (X : (topk.heap_1 P).In h) : h.get? (nat_lit 0) = some (⟨.type "dict", none, obD P, #[]⟩ : Obj) := X _ _ (by kernel_rfl)
theorem borrow_x0 {prog : Program} {w : World} {s : Shared} {t1 t2 t3 : Tok} {k p : Str} {sp : Int} {rl tu tv : Addr} {n : Nat} (X : (topk.heap_1 w.params).In s.heap)
  (hr : s.heap.get? rl = some (⟨.type "list", none, .seq #[.ref tu] n, #[]⟩ : Obj)) (hk : 0 < k.length) (hk2 : k.length ≤ 100) (hp : 0 < p.length) (hp2 : p.length ≤ 100) (e1 : (k ++ (Str.mk (Array.mk [58, 32]))).length = k.length + 2) (e2 : (k ++ (Str.mk (Array.mk [58, 32])) ++ p).length = k.length + 2 + p.length)  :
   wpAny (model prog w) AX (call (.ref 155) [.str k t1, .str p t2, .int sp t3, .ref rl]) (BPost s k p sp tu) (fun _ _ => False) s := by
  have h0 := K_0 X
  x_run
theorem borrow_x {prog : Program} {w : World} {s : Shared} {t1 t2 t3 : Tok} {k p : Str} {sp : Int} {rl tu : Addr} {n : Nat} (X : (topk.heap_1 w.params).In s.heap)
  (hr : s.heap.get? rl = some (⟨.type "list", none, .seq #[.ref tu] n, #[]⟩ : Obj)) (hk : 0 < k.length) (hk2 : k.length ≤ 100) (hp : 0 < p.length) (hp2 : p.length ≤ 100) :
   wpAny (model prog w) AX (call (.ref 155) [.str k t1, .str p t2, .int sp t3, .ref rl]) (BPost s k p sp tu) (fun _ _ => False) s := by
  have e1 : (k ++ (Str.mk (Array.mk [58, 32]))).length = k.length + 2 := by rw [Str.length_append]; rfl
  have e2 : (k ++ (Str.mk (Array.mk [58, 32])) ++ p).length = k.length + 2 + p.length := by rw [Str.length_append, e1]
  exact borrow_x0 (tv := 0) X hr hk hk2 hp hp2 e1 e2
end Mine
end

-- C3
section
open PySem PySem.W PySem.W.X PyProof.Rows PySem.Calls PySem.Spec
set_option Elab.async false
set_option maxRecDepth 100000
set_option maxHeartbeats 400000
namespace Mine
section
variable {prog : Program} {w : World} {A : Around} {E : Value → Shared → Prop} {s : Shared} {K : Frag} {x C : Addr} {ox : Obj} {od : Option Obj} {name : Str} {expr : Bool} {Q : Value → Shared → Prop}
open PySem.F in
theorem get_exc {v : Value} (X : K.In s.heap) (I : W.InstAt s.heap x ox C od) (hga : findIn K (.ref C) "__getattribute__" = some (some (.builtin "BaseException.__getattribute__")))
    (hk : findIn K (.ref C) "__getattr__" = some none) (hsub : subIn K (.ref C) (.type "BaseException") = some true)
    (hf : findObj K C od name = some (.value v)) (hh : handedIn v = true) (h : Q v { s with toks := s.toks + 1 }) : wpAny (model prog w) A (getAttr (.ref x) name expr) Q E s := by
  obtain ⟨hh', g, d, t, os⟩ := s
  have L0 := I.type (M := model prog w)
  have L1 := looks_findIn (M := model prog w) X hga
  have L2 := looks_findIn (M := model prog w) X hk
  have L3 : Looks (model prog w) hh' (isInstance (.ref x) (.type "BaseException")) true := L0.andThen (looks_subIn X hsub)
  have L4 := looks_find (M := model prog w) X I hf
  have hb : ∀ self, bindSpecial (.builtin "BaseException.__getattribute__") self = pure (.builtin "BaseException.__getattribute__", [self]) := excAttr_ValueError.ga.bind
  unfold getAttr getAttrBy
  refine wpAny_bind (wpAny_mkText (wpAny_holding (wpAny_bind (L0.at (wpAny_bind (L1.at ?_))))))
  show wpAny _ _ (getAttrByItsOwn _ _ _ _ _ _) _ _ _
  unfold getAttrByItsOwn
  refine wpAny_bind ?_
  show wpAny _ _ (typeLookup (.ref C) "__getattr__") _ _ _
  refine L2.at ?_
  refine wpAny_bind (wpAny_attempt (wpAny_holding ?_))
  have e : callGetattribute (.ref x) (.str name t) (.builtin "BaseException.__getattribute__") expr = boundAndCalled (.builtin "BaseException.__getattribute__") (.ref x) (.str name t) := by cases expr <;> rfl
  rw [e]
  unfold boundAndCalled
  rw [hb]
  refine wpAny_bind (wpAny_pure ?_)
  refine wpAny_call (codeAny_call_builtin excAttr_ValueError.ga.plain entry_bexc_ga ?_)
  refine @check_slot (model prog w) _ _ _ "BaseException.__getattribute__" "BaseException" "__getattribute__" (.ref x) [.str name t] [] _ (by decide +kernel) (by decide +kernel) L3 (args_bexc_ga (.ref x) (.str name t)) ?_
  unfold Builtin.«object.__getattribute__»
  refine wpAny_bind (m := slotArgs "__getattribute__" 1 _) (wpAny_pure ?_)
  refine wpAny_bind (m := Builtin.ObjectAttr.attrName _) (wpAny_pure ?_)
  refine wpAny_bind (L0.at ?_)
  refine wpAny_bind (L4.at ?_)
  refine wpAny_pure ?_
  show wpAny _ _ (handedOut v) _ _ _
  rw [handedOut_of hh]; exact wpAny_pure h
end
end Mine
end

-- C4
section
open PySem PySem.W PySem.W.X PyProof.Rows PySem.Calls PySem.Spec
set_option Elab.async false
set_option maxRecDepth 100000
set_option maxHeartbeats 1000000
namespace Mine
section
variable {w : World} {A : Around} {E : Value → Shared → Prop} {s : Shared} {h₀ : Heap} {L : Addr} {m : Str → Option Value} {news : List (Addr × Obj)} {Q : Value → Shared → Prop}
theorem inst_exc {h : Heap} {f C dx tp : Addr} {od : Obj} (N : News h₀ L h news) (h1 : (f, excObj C dx tp) ∈ news) (h2 : (dx, od) ∈ news) : W.InstAt h f (excObj C dx tp) C (some od) := ⟨(N _ h1).1, rfl, rfl, (N _ h2).1⟩
structure ExcCls (P : Params) (C : Addr) : Prop where
  ga : findIn (topk.heap_1 P) (.ref C) "__getattribute__" = some (some (.builtin "BaseException.__getattribute__"))
  gh : findIn (topk.heap_1 P) (.ref C) "__getattr__" = some none
  sub : subIn (topk.heap_1 P) (.ref C) (.type "BaseException") = some true
  dic : hasDictIn (topk.heap_1 P) C = true
  msg : findIn (topk.heap_1 P) (.ref C) "message" = some none
  spot : findIn (topk.heap_1 P) (.ref C) "spot" = some none
  kind : findIn (topk.heap_1 P) (.ref C) "kind" = some none
  rows : findIn (topk.heap_1 P) (.ref C) "rows" = some none
theorem exc155 (w : World) : ExcCls w.params 155 := ⟨by k_is, by k_is, by k_is, by k_is, by k_is, by k_is, by k_is, by k_is⟩
theorem exc_attr {C f dx tp : Addr} {es : List DictEntry} {n : Nat} {name : Str} {v : Value} {expr : Bool} (H : ExcCls w.params C) (F : Fr h₀ L s.heap m) (X : (topk.heap_1 w.params).In h₀) (N : News h₀ L s.heap news) (h1 : (f, excObj C dx tp) ∈ news) (h2 : (dx, dictOf es n) ∈ news)
  (hn : findIn (topk.heap_1 w.params) (.ref C) name = some none) (hl : getL name es = some (some v)) (hv : handedIn v = true) (h : Q v { s with toks := s.toks + 1 }) : wpAny (model PR w) A (getAttr (.ref f) name expr) Q E s :=
  get_exc (X.keeps F.keep) (inst_exc N h1 h2) H.ga H.gh H.sub (findObj_own H.dic hn rfl hl) hv h
theorem borrow_use {dp un : Nat} {gd : Option (List Code)} {cn : Str} {cs : Scope} {a : Addr} {ccd : Value} {cl : List (Str × Addr)} {outer : List Env} {k p : Str} {t1 t2 t3 : Tok} {sp : Int} {rl tu : Addr} {n : Nat}
  (hdp : dp ≤ 400) (hun : un ≤ 500) (F : Fr h₀ L s.heap m) (X : (topk.heap_1 w.params).In h₀) (N : News h₀ L s.heap news) (hr : (rl, seqObj "list" #[.ref tu] n) ∈ news) (hk : 0 < k.length) (hk2 : k.length ≤ 100) (hp : 0 < p.length) (hp2 : p.length ≤ 100)
  (ret : ∀ f dx tp rt h' tk' es n n' t1 t2 t3, Fr h₀ L h' m → News h₀ L h' ((f, excObj 155 dx tp) :: (dx, dictOf es n) :: (rt, seqObj "tuple" #[.ref tu] n') :: news) → (∀ q ∈ news, q.1 ≠ f ∧ q.1 ≠ dx ∧ q.1 ≠ rt) →
    getL "message" es = some (some (.str (k ++ sep ++ p) t1)) → getL "kind" es = some (some (.str k t2)) → getL "spot" es = some (some (.int sp t3)) → getL "rows" es = some (some (.ref rt)) → Q (.ref f) { s with heap := h', toks := tk' }) :
  wpAny (model PR w) (ktrTop dp un gd cn cs L a ccd cl outer) (call (.ref 155) [.str k t1, .str p t2, .int sp t3, .ref rl]) Q E s := by
  refine wk (A' := AX) rfl hdp rfl rfl hun ?_
  refine wpAny_mono (borrow_x (X.keeps F.keep) (N _ hr).1 hk hk2 hp hp2) (fun r s' h => ?_) (fun _ _ e => e.elim)
  obtain ⟨f, dx, tp, rt, h', tk', es, n, n', nw, t1, t2, t3, rfl, rfl, D, m1, m2, m3, g1, g2, g3, g4⟩ := h
  have kp : ∀ b o, s.heap.get? b = some o → h'.get? b = some o := fun b o e => D.keep b o e (by rw [show away [] b = true from rfl, Bool.or_true])
  have off : ∀ q o, (q, o) ∈ nw → ∀ p ∈ news, p.1 ≠ q := fun q o hq p hp e => by have := (D.nw _ hq).2; have h2 := (N _ hp).1; rw [e] at h2; rw [h2] at this; cases this
  have hL : ∀ q o, (q, o) ∈ nw → q ≠ L := fun q o hq e => by obtain ⟨oL, _, _, ho, _⟩ := F.ns; have := (D.nw _ hq).2; subst e; rw [ho] at this; cases this
  have h0 : ∀ q o, (q, o) ∈ nw → h₀.get? q = none := fun q o hq => by
    cases e : h₀.get? q with
    | none => rfl
    | some o' => have := (D.nw _ hq).2; rw [F.keep _ _ e] at this; cases this
  have one : ∀ q o, (q, o) ∈ nw → h'.get? q = some o ∧ q ≠ L ∧ h₀.get? q = none := fun q o hq => ⟨(D.nw _ hq).1, hL q o hq, h0 q o hq⟩
  refine ret f dx tp rt h' tk' es n n' t1 t2 t3 (F.keeps kp) (fun p hp => ?_) (fun q hq => ⟨off _ _ m1 q hq, off _ _ m2 q hq, off _ _ m3 q hq⟩) g1 g2 g3 g4
  rcases List.mem_cons.mp hp with rfl | hp
  · exact one _ _ m1
  rcases List.mem_cons.mp hp with rfl | hp
  · exact one _ _ m2
  rcases List.mem_cons.mp hp with rfl | hp
  · exact one _ _ m3
  exact ⟨kp _ _ (N p hp).1, (N p hp).2⟩
end
end Mine
end

-- C5
section
open PySem PySem.W PySem.W.X PyProof.Rows PySem.Calls PySem.Spec
set_option Elab.async false
set_option maxRecDepth 100000
set_option maxHeartbeats 4000000
namespace Mine
structure FD where
  msg : Str
  kind : Str
  spot : Int
  rows : Addr
structure Pr where
  t : Addr
  p : Int
  f : Addr
  d : FD
def FaultIn (news : List (Addr × Obj)) (f : Addr) (d : FD) : Prop :=
  ∃ (dx tp : Addr) (es : List DictEntry) (n : Nat) (t1 t2 t3 : Tok), (f, excObj 155 dx tp) ∈ news ∧ (dx, dictOf es n) ∈ news ∧ getL "message" es = some (some (.str d.msg t1)) ∧ getL "kind" es = some (some (.str d.kind t2)) ∧
    getL "spot" es = some (some (.int d.spot t3)) ∧ getL "rows" es = some (some (.ref d.rows))
def PairsIn (news : List (Addr × Obj)) (ps : List Pr) : Prop := ∀ x ∈ ps, (∃ tk n, (x.t, seqObj "tuple" #[.int x.p tk, .ref x.f] n) ∈ news) ∧ FaultIn news x.f x.d
def RowAt (nw : List (Addr × Obj)) (t : Addr) (x : Pr) (j : Nat) : Prop := ∃ tk1 tk2 tk3 n, (t, seqObj "tuple" #[.int x.p tk1, .str x.d.msg tk2, .int (j : Int) tk3] n) ∈ nw
theorem FaultIn.mono {a b : List (Addr × Obj)} (hs : ∀ p ∈ a, p ∈ b) {f : Addr} {d : FD} : FaultIn a f d → FaultIn b f d := fun ⟨dx, tp, es, n, t1, t2, t3, h1, h2, r⟩ => ⟨dx, tp, es, n, t1, t2, t3, hs _ h1, hs _ h2, r⟩
theorem PairsIn.mono {a b : List (Addr × Obj)} {ps : List Pr} (h : PairsIn a ps) (hs : ∀ p ∈ a, p ∈ b) : PairsIn b ps := fun x hx => ⟨let ⟨tk, n, hm⟩ := (h x hx).1; ⟨tk, n, hs _ hm⟩, (h x hx).2.mono hs⟩
theorem AllLt.mem {d : Addr} : ∀ {l : List (Addr × Obj)}, AllLt d l → ∀ p ∈ l, p.1 < d
  | [], _, _, h => nomatch h
  | _ :: _, x, p, h => by
    rcases List.mem_cons.mp h with rfl | h
    · exact x.1
    · exact AllLt.mem x.2 p h
theorem RowAt.mono {a b : List (Addr × Obj)} (hs : ∀ p ∈ a, p ∈ b) {t : Addr} {x : Pr} {j : Nat} : RowAt a t x j → RowAt b t x j := fun ⟨t1, t2, t3, n, h⟩ => ⟨t1, t2, t3, n, hs _ h⟩
theorem sub4 {α : Type} {a b c d : α} {r : List α} : ∀ p ∈ a :: b :: c :: d :: r, p ∈ d :: a :: b :: c :: r := fun p hp => by
  revert p
  repeat (refine List.forall_mem_cons.mpr ⟨(by repeat (first | exact List.Mem.head _ | refine List.Mem.tail _ ?_)), ?_⟩)
  exact fun _ h => by repeat (first | exact h | refine List.Mem.tail _ ?_)
theorem sub5 {α : Type} {a b z : α} {r : List α} : ∀ p ∈ a :: b :: r, p ∈ z :: b :: a :: r := fun p hp => by
  revert p
  repeat (refine List.forall_mem_cons.mpr ⟨(by repeat (first | exact List.Mem.head _ | refine List.Mem.tail _ ?_)), ?_⟩)
  exact fun _ h => by repeat (first | exact h | refine List.Mem.tail _ ?_)
theorem newsSub {h₀ h : Heap} {L : Addr} {a b : List (Addr × Obj)} (N : News h₀ L h b) (hs : ∀ p ∈ a, p ∈ b) : News h₀ L h a := fun p hp => N p (hs p hp)
def refsOf (ps : List Pr) : List Value := ps.map fun x => .ref x.t
def ksOf (ps : List Pr) (i : Nat) : Int × Str × Nat := match ps[i]? with | some x => (x.p, x.d.msg, i) | none => (0, ⟨#[]⟩, i)
theorem ksOf_ix {ps : List Pr} (i : Nat) : (ksOf ps i).2.2 = i := by unfold ksOf; split <;> rfl
theorem ksOf_at {ps : List Pr} {i : Nat} {x : Pr} (h : ps[i]? = some x) : ksOf ps i = (x.p, x.d.msg, i) := by unfold ksOf; rw [h]
theorem off1_mem {D : Addr} : ∀ {l : List (Addr × Obj)}, LCg.Off1 D l → ∀ p ∈ l, p.1 ≠ D
  | [], _, _, h => nomatch h
  | _ :: _, x, p, h => by
    rcases List.mem_cons.mp h with rfl | h
    · exact x.1
    · exact off1_mem x.2 p h
theorem newsUniq {h₀ h : Heap} {L a : Addr} {l : List (Addr × Obj)} {o o' : Obj} (N : News h₀ L h l) (h1 : (a, o) ∈ l) (h2 : (a, o') ∈ l) : o = o' := Option.some.inj ((N _ h1).1.symm.trans (N _ h2).1)
def offL (f : Addr) (l : List (Addr × Obj)) : List (Addr × Obj) := l.filter fun p => decide (p.1 ≠ f)
theorem mem_offL {f : Addr} {l : List (Addr × Obj)} {p : Addr × Obj} : p ∈ offL f l ↔ p ∈ l ∧ p.1 ≠ f := by simp [offL]
theorem tupOff {prog : Program} {w : World} {K : Type} [DecidableEq K] {knd : PySem.KeyKind prog w K} {enc : K → PyData} {h₀ h : Heap} {L f d : Addr} {l : List (Addr × Obj)} {D : List (PyData × PyData)} {lo : Obj} (T : TupTab knd enc l d D) (N : News h₀ L h l) (hf : (f, lo) ∈ l) (hc : lo.cls ≠ .type "tuple") (hne : d ≠ f) : TupTab knd enc (offL f l) d D := by
  obtain ⟨l0, o, es, ep, xs, hm, he, hd, hx, hn, hk, hf'⟩ := T
  refine ⟨l0, o, es, ep, xs, mem_offL.mpr ⟨hm, hne⟩, he, hd, hx, hn, fun x hx' => ?_, hf'⟩
  obtain ⟨ok, hmk, t⟩ := hk x hx'
  refine ⟨ok, mem_offL.mpr ⟨hmk, fun e => ?_⟩, t⟩
  have e' : x.2.1 = f := e
  rw [e'] at hmk
  have := newsUniq N hmk hf
  rw [this] at t
  exact hc t.1
theorem list_ne : (Value.type "list") ≠ .type "tuple" := fun h => by injection h with h2; exact absurd h2 (by decide)
theorem iter_ne : (Value.type "list_iterator") ≠ .type "tuple" := fun h => by injection h with h2; exact absurd h2 (by decide)
def faOf (ps : List Pr) (i : Nat) : Value := match ps[i]? with | some x => .ref x.f | none => .none
theorem faOf_at {ps : List Pr} {i : Nat} {x : Pr} (h : ps[i]? = some x) : faOf ps i = .ref x.f := by unfold faOf; rw [h]
def OJ (w : World) (ps : List Pr) (ts : List Addr) (l9 d9 I : Addr) (B0 : List (Addr × Obj)) (its : List Itm) (mm : Str → Option Value) (nw : List (Addr × Obj)) : Prop :=
  ∃ bef aft out c rest' D, its = aft.map (fun i => Itm.val (.ref (ts.getD i 0))) ∧ LoopIx ps.length (ksOf ps) bef aft out ∧ nw = (l9, listOf (out.map (faOf ps)).toArray c) :: rest' ∧ (∀ p ∈ rest', p.1 ≠ l9 ∧ p.1 ≠ I) ∧ (∀ p ∈ B0, p ∈ rest') ∧
    TupTab (mixKind PR w) mixEnc rest' d9 D ∧ MetIs (ksOf ps) D out ∧ D.length ≤ out.length ∧ out.length ≤ bef.length ∧ mm (Str.ofString "found") = some (.ref l9) ∧ mm (Str.ofString "met") = some (.ref d9)
def Stop (P : Prop) : Prop := P
theorem stop {P : Prop} (h : Stop P) : P := h
section
local macro_rules | `(tactic| walk_at "eval Name") => `(tactic| ((with_reducible show wpAny _ _ (eval (Expr.Name _ _) (compEnvC _ _ _ _)) _ _ _); refine stop ?_))
local macro_rules
  | `(tactic| walk_at "exec Assign cons ListComp") => `(tactic| (refine stop ?_))
  | `(tactic| walk_at "subscriptTail") => `(tactic| (refine stop ?_))
  | `(tactic| walk_at "getAttr ref") => `(tactic| (refine stop ?_))
  | `(tactic| walk_at "exec For") => `(tactic| (refine stop ?_))
  | `(tactic| walk_at "call builtin:sorted") => `(tactic| (refine stop ?_))
set_option hygiene false in
local macro_rules | `(tactic| walk_at "eval Name") => `(tactic| ((with_reducible show wpAny _ _ (eval (Expr.Name (Str.ofString "found") _) (envOfC _ _ _ _ _)) _ _ _); (rename Fr _ _ _ _ => lF9); k_dflt (refine nameX_L lF9 m1 ?_)))
set_option hygiene false in
local macro_rules | `(tactic| walk_at "eval Name") => `(tactic| ((with_reducible show wpAny _ _ (eval (Expr.Name (Str.ofString "met") _) (envOfC _ _ _ _ _)) _ _ _); (rename Fr _ _ _ _ => lF9); k_dflt (refine nameX_L lF9 m2 ?_)))
local macro_rules | `(tactic| walk_at "eval Name") => `(tactic| ((with_reducible show wpAny _ _ (eval (Expr.Name (Str.ofString "faults") _) (envOfC _ _ _ _ _)) _ _ _); first | (k_dflt (refine' nameX_C ?N ?c ?m ?d ?_ ?a ?b; (case a => rfl); (case b => rfl); (case N => k_asm); (case c => rfl); (case m => k_mem); (case d => k_asm); k_whole)) | refine stop ?_))
local macro_rules
  | `(tactic| walk_at "call builtin:list.append") => `(tactic| (refine stop ?_))
  | `(tactic| walk_at "compareOp NotIn ref ref") => `(tactic| (refine stop ?_))
  | `(tactic| walk_at "setItem ref ref") => `(tactic| (refine stop ?_))
variable {w : World} {mean : ExcName → Option Value} {mg mb : Str → Option Value}
theorem once_spec {dp un : Nat} {gd : Option (List Code)} {cn : Str} {cs : Scope} {L a : Addr} {ccd : Value} {cl : List (Str × Addr)} {outer : List Env} {A₀ : Around} {base h₀ : Heap} {m : Str → Option Value} {s : Shared} {Q E : Value → Shared → Prop}
  {l : Addr} {ps : List Pr} {n : Nat} {rest : List (Addr × Obj)}
  (B : Below A₀ base outer h₀) (F : Fr h₀ L s.heap m) (X : (topk.heap_1 w.params).In h₀) (T : Top VW LZ mean mg mb h₀) (hk : cs.kind = .function) (hd : dp + 2 < recursionLimit) (hu : un + 16 < cLine)
  (N : News h₀ L s.heap ((l, seqObj "list" (refsOf ps).toArray n) :: rest)) (hp : PairsIn rest ps) (hlen : ps.length ≤ 8)
  (ret : ∀ D c out h' tk', OnceIx ps.length (ksOf ps) out → Fr h₀ L h' m → News h₀ L h' ((D, listOf (out.map (faOf ps)).toArray c) :: (l, seqObj "list" (refsOf ps).toArray n) :: rest) → (∀ p ∈ (l, seqObj "list" (refsOf ps).toArray n) :: rest, p.1 < D) → Q (.ref D) { s with heap := h', toks := tk' }) :
  wpAny (model PR w) (ktrTop dp un gd cn cs L a ccd cl outer) (call (.ref 19) [.ref l]) Q E s := by
  refine wpAny_call ?_
  k_dflt (first | ktr_enter | (refine' code_defC ?k1 ?k2 ?k3 ?k4 ?k5 ?kA ?kF ?kK ?k6 ?k7 ?k8 ?k9 ?kB ?kD ?_ ?c2 ?c3 ?c4; (case kA => exact rfl); (case kF => exact rfl); (case kK => assumption); (case k1 => k_asm); (case k2 => k_asm); (case k3 => k_asm); (case k4 => k_asm); (case k5 => k_asm); (case k6 => k_is); (case k7 => k_is); (case k8 => ktr_room); (case k9 => first | exact BindsTo.of_eq rfl | exact binds_K (by k_in) rfl (by k_is) rfl rfl rfl | fail "k_enter: no rule for these arguments"); (case kB => exact rfl); (case kD => decide +kernel); (case c2 => exact rfl); (case c3 => exact rfl); (case c4 => exact rfl); k_whole; intro g' L' h' tk' cells' FG' F' N' Y' B' X' T' l1; (try k_lt l1); k_cells Y'; (try simp only [List.cons_append, List.nil_append] at N'); (try dsimp only); (try k_lift B'); (try k_fold)))
  k_steps
  rename_i o1 d1 l9 hx1 l1a d9 hx2 o9 lo9 hs9 hx3 hx4 hx5 l1b D9 hx6 l1c hx7 hx8 hx9 F9 N9
  have hcell : o1.data = .cell (some (.ref l)) := d1
  clear hx3 hx4 hx5 hx1 hx2 hx6
  delta Stop
  k_dflt (refine LCg.Assign_ListComp_U (F₀ := by k_asm) (by rfl) (by with_unfolding_all rfl) (by with_unfolding_all rfl) (by decide) (by rfl) (by decide) (by rfl) (by rfl) (by rfl) ?_)
  k_steps
  refine len_list (News.isList N9 (by k_mem)) (by rw [List.size_toArray]; simp only [refsOf, List.length_map]; omega) ?_
  k_steps
  have hsz : (refsOf ps).toArray.size = ps.length := by simp [refsOf]
  have hmem : PairsIn ((L' + 1, o1) :: (l, seqObj "list" (refsOf ps).toArray n) :: rest) ps := hp.mono fun p hp => .tail _ (.tail _ hp)
  obtain ⟨base, hbase⟩ : ∃ b, b = (L' + 1, o1) :: (l, seqObj "list" (refsOf ps).toArray n) :: rest := ⟨_, rfl⟩
  have mc : (L' + 1, o1) ∈ base := by rw [hbase]; exact .head _
  have ml : (l, seqObj "list" (refsOf ps).toArray n) ∈ base := by rw [hbase]; exact .tail _ (.head _)
  rw [← hbase] at hmem
  (rename News _ _ _ _ => N9)
  rw [← hbase] at N9
  have N8 := newsSub N9 (sub5 (r := base))
  clear N9
  refine LCg.CompSrc.range (n := ps.length) (by rfl) (by k_asm) (by k_asm) (by assumption) (small_one (by omega) (by omega) (by omega) (by omega)) (by rw [rangeSize_nat, hsz]; simp) (by rw [sizeLine_eq]; omega) ?_
  intro g9
  refine compRest_of (n := ps.length) (fun i ys nw => ∃ tl ts, nw = tl ++ ((l9, W.listOf #[] 0) :: (d9, o9) :: base) ∧ List.length ts = i ∧ ys = ts.map Value.ref ∧ (∀ p ∈ tl, l9 < p.1 ∧ d9 < p.1) ∧ (∀ (j : Nat) (t : Addr) (x : Pr), ts[j]? = some t → ps[j]? = some x → RowAt tl t x j)) ?step ?fin ps.length 0 [] _ (by omega) ?J0
  case J0 => exact ⟨[], [], rfl, rfl, rfl, fun _ h => absurd h List.not_mem_nil, fun _ _ _ h => by simp at h⟩
  case fin =>
    rintro ys nw ⟨tl, ts, hnw, hts, rfl, htl, hrow⟩
    unfold LCg.FinA
    intro D h tk F N off
    dsimp only
    k_steps
    delta Stop
    have sub : ∀ p ∈ base, p ∈ nw := fun p hp => by rw [hnw]; exact List.mem_append_right _ (.tail _ (.tail _ hp))
    k_dflt (refine For_turns F ?_)
    k_steps
    delta Stop
    rename_i F N
    refine sorted_rows (vs := ts.map Value.ref) (ks := ksOf ps) ksOf_ix F N ?l1 ?l2 ?l3 ?l4
    case l2 => simp only [List.length_map]; omega
    case l1 => exact News.isList N (.head _)
    case l3 =>
      intro i hi
      have hi' : i < ts.length := by rw [List.length_map] at hi; exact hi
      have hi2 : i < ps.length := by omega
      obtain ⟨t1, t2, t3, n, hr⟩ := hrow i _ _ (List.getElem?_eq_getElem hi') (List.getElem?_eq_getElem hi2)
      refine ⟨ts[i], t1, t2, t3, n, by simp, ?_⟩
      rw [ksOf_at (List.getElem?_eq_getElem hi2)]
      exact .tail _ (by rw [hnw]; exact List.mem_append_left _ hr)
    intro S c h9 od hperm hpw F N lt
    have htn : (ts.map Value.ref).length = ps.length := by rw [List.length_map]; exact hts
    rw [htn] at hperm
    have hB : ∀ p ∈ (d9, o9) :: base, p.1 ≠ l9 := by
      intro p hp e
      rcases List.mem_cons.mp hp with rfl | hp
      · exact Nat.lt_irrefl _ (e ▸ l1b.1)
      · exact Nat.lt_irrefl _ (e ▸ (AllLt.mem (l := (L' + 1, o1) :: (l, seqObj "list" (refsOf ps).toArray n) :: rest) l1a p (by rw [hbase] at hp; exact hp)))
    have hne : d9 ≠ l9 := hB _ (.head _)
    have sub2 : ∀ p ∈ (l9, W.listOf #[] 0) :: (d9, o9) :: ((S, seqObj "list" (List.map (fun i => (ts.map Value.ref).getD i Value.none) od).toArray c) :: (D, LCg.lst (ts.map Value.ref)) :: (tl ++ base)), p ∈ (S, seqObj "list" (List.map (fun i => (ts.map Value.ref).getD i Value.none) od).toArray c) :: (D, LCg.lst (ts.map Value.ref)) :: nw := fun p hp => by
      rw [hnw]
      simp only [List.mem_cons, List.mem_append] at hp ⊢
      rcases hp with h | h | h | h | h | h <;> simp [h]
    have N7 := newsSub N sub2
    clear N
    obtain ⟨B0, hB0⟩ : ∃ b, b = ((S, seqObj "list" (List.map (fun i => (ts.map Value.ref).getD i Value.none) od).toArray c) :: (D, LCg.lst (ts.map Value.ref)) :: (tl ++ base)) := ⟨_, rfl⟩
    rw [← hB0] at N7
    have hS : (S, seqObj "list" (List.map (fun i => (ts.map Value.ref).getD i Value.none) od).toArray c) ∈ B0 := by rw [hB0]; exact .head _
    have hrow9 : ∀ (j : Nat) (t : Addr) (x : Pr), ts[j]? = some t → ps[j]? = some x → RowAt B0 t x j := fun j t x h1 h2 => (hrow j t x h1 h2).mono fun p hp => by rw [hB0]; simp [hp]
    have subB : ∀ p ∈ base, p ∈ B0 := fun p hp => by rw [hB0]; simp [hp]
    have hl9 : (l9, W.listOf #[] 0) ∈ nw := by rw [hnw]; exact List.mem_append_right _ (.head _)
    have hd9 : (d9, o9) ∈ nw := by rw [hnw]; exact List.mem_append_right _ (.tail _ (.head _))
    have hBl : ∀ p ∈ B0, p.1 ≠ l9 := by
      intro p hp e
      rw [hB0] at hp
      rcases List.mem_cons.mp hp with rfl | hp
      · exact Nat.lt_irrefl _ (e ▸ lt _ (.tail _ hl9))
      · rcases List.mem_cons.mp hp with rfl | hp
        · exact off1_mem off _ hl9 e.symm
        · rcases List.mem_append.mp hp with hp | hp
          · exact Nat.lt_irrefl _ (e ▸ (htl p hp).1)
          · exact hB p (.tail _ hp) e
    have hBd : ∀ p ∈ B0, p.1 ≠ d9 := by
      intro p hp e
      rw [hB0] at hp
      rcases List.mem_cons.mp hp with rfl | hp
      · exact Nat.lt_irrefl _ (e ▸ lt _ (.tail _ hd9))
      · rcases List.mem_cons.mp hp with rfl | hp
        · exact off1_mem off _ hd9 e.symm
        · rcases List.mem_append.mp hp with hp | hp
          · exact Nat.lt_irrefl _ (e ▸ (htl p hp).2)
          · exact Nat.lt_irrefl _ (e ▸ AllLt.mem (l := (l9, W.listOf #[] 0) :: (L' + 1, o1) :: (l, seqObj "list" (refsOf ps).toArray n) :: rest) l1b p (.tail _ (by rw [hbase] at hp; exact hp)))
    k_steps
    refine iter_listTurns (lo := seqObj "list" (List.map (fun i => (ts.map Value.ref).getD i Value.none) od).toArray c) (vs := List.map (fun i => (ts.map Value.ref).getD i Value.none) od) (by rfl) F N7 (.tail _ (.tail _ hS)) rfl rfl ?_
    intro I lI
    refine itemsRest_of (OJ w ps ts l9 d9 I B0) ?lstep ?lfin _ _ _ ?lJ0
    case lJ0 =>
      refine ⟨[], od, [], 0, (d9, o9) :: B0, [], ?_, LoopIx.start hperm hpw, rfl, fun p hp => ⟨?_, Nat.ne_of_lt (lI p (.tail _ hp))⟩, fun p hp => .tail _ hp, TupTab.ofEmpty (.head _) lo9 hs9, MetIs.nil, Nat.le_refl _, Nat.le_refl _, ?_, ?_⟩
      · rw [List.map_map]
        refine List.map_congr_left fun i hi => ?_
        have hi' : i < ts.length := by rw [hts]; exact List.mem_range.mp (hperm.mem_iff.mp hi)
        simp [hi']
      · rcases List.mem_cons.mp hp with rfl | hp
        · exact hne
        · exact hBl p hp
      · exact rfl
      · exact rfl
    case lfin =>
      rintro mm nw' ⟨bef, aft, out, c', rest', D', e1, hL, rfl, e2, e3, e4, e5, e6, e7, m1, m2⟩ h' tk' F N
      have ha : aft = [] := List.map_eq_nil_iff.mp e1.symm
      subst ha
      k_steps
      (rename News _ _ _ _ => N9)
      refine ret l9 c' out h' tk' hL.fin (by assumption) (newsSub N9 fun p hp => ?_) fun p hp => ?_
      · rcases List.mem_cons.mp hp with rfl | hp
        · exact .head _
        · exact .tail _ (e3 _ (subB _ (by rw [hbase]; exact .tail _ hp)))
      · exact AllLt.mem (l := (L' + 1, o1) :: (l, seqObj "list" (refsOf ps).toArray n) :: rest) l1a p (.tail _ hp)
    case lstep =>
      rintro v0 rr mm nw' ⟨bef, aft, out, c', rest', D', e1, hL, rfl, e2, e3, e4, e5, e6, e7, m1, m2⟩ v h' tk' hv F oI hoI N
      obtain ⟨i, aft, rfl⟩ : ∃ i aft', aft = i :: aft' := by
        cases aft with
        | nil => cases e1
        | cons i aft' => exact ⟨i, aft', rfl⟩
      injection e1 with e1 e1'
      subst e1
      have hv' : v = .ref (ts.getD i 0) := hv
      subst hv'
      have hin : i < ps.length := List.mem_range.mp (hL.perm.mem_iff.mp (List.mem_append_right _ (.head _)))
      have hit : ts[i]? = some (ts.getD i 0) := by rw [List.getD_eq_getElem?_getD, List.getElem?_eq_getElem (by omega)]; rfl
      obtain ⟨tk1, tk2, tk3, nt, hrow1⟩ := hrow9 i _ _ hit (List.getElem?_eq_getElem hin)
      k_dflt (refine unpackN_ F N (News.isTup N (.tail _ (.tail _ (e3 _ hrow1)))) rfl rfl rfl ?_)
      intro h2 F N
      k_steps
      delta Stop
      rename_i xa xb xc T xd N3 lT
      have hki : keyT (ksOf ps i) = [.inl ps[i].p, .inr ps[i].d.msg] := by rw [ksOf_at (List.getElem?_eq_getElem hin)]; rfl
      have tk0 : TupKeyObj (mixKind PR w) (keyT (ksOf ps i)) { cls := .type "tuple", data := .seq #[.int ps[i].p tk1, .str ps[i].d.msg tk2] } := by
        rw [hki]
        exact TupKeyObj.made (.cons (by simp [mixKind, mixIs, Value.isInt]) (.cons (by simp [mixKind, mixIs, Value.isStrOf]) .nil))
      refine notin_tupTab mixEnc_same ?uu N3 (((e4.cons _).cons _).cons _) (.head _) tk0 ?_
      case uu => ktr_units
      cases hq : (PySem.Spec.lookup (encTuple mixEnc (keyT (ksOf ps i))) D').isSome with
      | true =>
        k_steps
        refine ⟨xd, _, _, (l9, listOf (out.map (faOf ps)).toArray c') :: rest', rfl, by assumption, newsSub N3 fun p hp => .tail _ hp, ?_, ⟨.tail _ (e3 _ hS), trivial⟩, ?_⟩
        · intro p hp q hq'
          rw [List.mem_singleton.mp hq']
          rcases List.mem_cons.mp hp with rfl | hp
          · exact Nat.ne_of_lt (lI (l9, W.listOf #[] 0) (.head _))
          · exact (e2 p hp).2
        · refine ⟨bef ++ [i], aft, out, c', rest', D', e1', hL.old ((e5 i).mp hq), rfl, e2, e3, e4, e5, e6, by rw [List.length_append]; omega, m1, m2⟩
      | false =>
        k_steps
        delta Stop
        rename_i T2 xe F4 N4 lT2
        have hlen8 : D'.length ≤ sizeLine := by
          have := hL.perm.length_eq
          simp only [List.length_append, List.length_range, List.length_cons] at this
          rw [sizeLine_eq]; omega
        refine setItem_tupTab mixEnc_same ?uu (.bool true) F4 N4 ((((e4.cons _).cons _).cons _).cons _) (.head _) tk0 (fun h5 nw5 F5 N5 T5 hka5 keep5 => ?_) hlen8
        case uu => ktr_units
        have hne5 : ∀ p ∈ (l9, listOf (out.map (faOf ps)).toArray c') :: rest', p ∈ (T2, ({ cls := .type "tuple", data := .seq #[.int ps[i].p tk1, .str ps[i].d.msg tk2] } : Obj)) :: (T, { cls := .type "tuple", data := .seq #[.int ps[i].p tk1, .str ps[i].d.msg tk2] }) :: ([((I, "list_iterator").fst, oI)] ++ (l9, listOf (out.map (faOf ps)).toArray c') :: rest') := fun p hp => .tail _ (.tail _ (.tail _ hp))
        have hl5 : (l9, listOf (out.map (faOf ps)).toArray c') ∈ nw5 := keep5 _ (hne5 _ (.head _)) hne.symm
        have hI5 : (I, oI) ∈ nw5 := keep5 _ (.tail _ (.tail _ (.head _))) (fun e => Nat.lt_irrefl _ (e ▸ lI (d9, o9) (.tail _ (.head _))))
        have T6 := tupOff (f := I) (tupOff (f := l9) T5 N5 hl5 list_ne hne) (newsSub N5 fun p hp => (mem_offL.mp hp).1) (lo := oI) (mem_offL.mpr ⟨hI5, fun e => Nat.lt_irrefl _ (e ▸ lI (l9, W.listOf #[] 0) (.head _))⟩) (by rw [hoI]; exact iter_ne) (fun e => Nat.lt_irrefl _ (e ▸ lI (d9, o9) (.tail _ (.head _))))
        have hkeep : ∀ p ∈ B0, p ∈ offL I (offL l9 nw5) := fun p hp => mem_offL.mpr ⟨mem_offL.mpr ⟨keep5 _ (hne5 _ (.tail _ (e3 p hp))) (hBd p hp), hBl p hp⟩, Nat.ne_of_lt (lI p (.tail _ (.tail _ hp)))⟩
        have hkeep2 : ∀ p ∈ base, p ∈ offL I (offL l9 nw5) := fun p hp => hkeep p (subB p hp)
        have N6 : News g' L' h5 ((l9, listOf (out.map (faOf ps)).toArray c') :: (I, oI) :: offL I (offL l9 nw5)) := fun p hp => by
          rcases List.mem_cons.mp hp with rfl | hp
          · exact N5 _ hl5
          · rcases List.mem_cons.mp hp with rfl | hp
            · exact N5 _ hI5
            · exact N5 _ (mem_offL.mp (mem_offL.mp hp).1).1
        clear N5
        k_steps
        delta Stop
        refine nameX_C N6 rfl (.tail _ (.tail _ (hkeep2 _ mc))) hcell ?_ rfl rfl
        k_steps
        delta Stop
        have hpx : (refsOf ps).toArray[(i : Int).toNat]? = some (.ref (ps[i]).t) := by simp [refsOf, hin]
        obtain ⟨⟨tk9, n9, mt⟩, _⟩ := hmem _ (List.getElem_mem hin)
        refine item_list (News.isList N6 (.tail _ (.tail _ (hkeep2 _ ml)))) (by omega) (by omega) hpx ?_
        k_steps
        delta Stop
        refine item_tupleT (l := [_, _]) (News.isTup N6 (.tail _ (.tail _ (hkeep2 _ mt)))) (by decide) (by decide) rfl rfl ?_
        k_steps
        delta Stop
        have hsz9 : (out.map (faOf ps)).toArray.size ≤ sizeLine := by
          have := hL.perm.length_eq
          simp only [List.length_append, List.length_range, List.length_cons] at this
          rw [List.size_toArray, List.length_map, sizeLine_eq]; omega
        refine append_K (by assumption) N6 (Upd.head fun p hp => ?_) (fun h7 F7 N7 => ?_) hsz9
        · rcases List.mem_cons.mp hp with rfl | hp
          · exact Nat.ne_of_gt (lI (l9, W.listOf #[] 0) (.head _))
          · exact (mem_offL.mp (mem_offL.mp hp).1).2
        k_steps
        have hpush : (out.map (faOf ps)).toArray.push (.ref ps[i].f) = ((out ++ [i]).map (faOf ps)).toArray := by simp [faOf_at (List.getElem?_eq_getElem hin)]
        (rename News _ _ _ _ => N9)
        refine ⟨_, _, _, (l9, listOf ((out ++ [i]).map (faOf ps)).toArray (c' + 1)) :: offL I (offL l9 nw5), rfl, by assumption, ?_, ?_, ⟨.tail _ (hkeep _ hS), trivial⟩, ?_⟩
        · intro p hp
          rcases List.mem_cons.mp hp with rfl | hp
          · exact N9 _ (.tail _ (.head _))
          · rcases List.mem_cons.mp hp with rfl | hp
            · rw [← hpush]; exact N9 _ (.head _)
            · exact N9 _ (.tail _ (.tail _ hp))
        · intro p hp q hq'
          rw [List.mem_singleton.mp hq']
          rcases List.mem_cons.mp hp with rfl | hp
          · exact Nat.ne_of_lt (lI (l9, W.listOf #[] 0) (.head _))
          · exact (mem_offL.mp hp).2
        · refine ⟨bef ++ [i], aft, out ++ [i], c' + 1, offL I (offL l9 nw5), _, e1', hL.new ksOf_ix (fun q => ?_), rfl, fun p hp => ⟨(mem_offL.mp (mem_offL.mp hp).1).2, (mem_offL.mp hp).2⟩, hkeep, T6, e5.snoc i _, ?_, ?_, m1, m2⟩
          · have := (e5 i).mpr q
            rw [hq] at this; cases this
          · refine Nat.le_trans (PyProof.V.putD_length_le _ _ _) ?_
            rw [List.length_append]; exact Nat.succ_le_succ e6
          · rw [List.length_append, List.length_append]; exact Nat.succ_le_succ e7
  case step =>
    rintro i ys nw hi ⟨tl, ts, hnw, hts, rfl, htl, hrow⟩ v I oI C oC D m₂ h tk E' ⟨tv, rfl⟩ hC hx F N off ne
    have sub : ∀ p ∈ base, p ∈ nw := fun p hp => by rw [hnw]; exact List.mem_append_right _ (.tail _ (.tail _ hp))
    have mc' := sub _ mc
    have ml' := sub _ ml
    have hpi := hmem.mono sub
    clear mc ml hmem
    have hpx : (refsOf ps).toArray[((0 : Int) + (i : Int)).toNat]? = some (.ref (ps[i]).t) := by simp [refsOf, hi]
    obtain ⟨⟨tk9, n9, mt⟩, dx, tp, es, n8, t1, t2, t3, mf, md, g1, g2, g3, g4⟩ := hpi _ (List.getElem_mem hi)
    k_steps
    delta Stop
    refine lcf_cell N rfl (.tail _ (.tail _ (.tail _ mc'))) hcell ?_ rfl rfl
    k_steps
    delta Stop
    refine LCgL.ld_own N (.tail _ (.head _)) hC hx ?_
    k_steps
    delta Stop
    refine item_list (News.isList N (.tail _ (.tail _ (.tail _ ml')))) (by omega) (by omega) hpx ?_
    k_steps
    delta Stop
    refine item_tupleT (l := [_, _]) (News.isTup N (.tail _ (.tail _ (.tail _ mt)))) (by decide) (by decide) rfl rfl ?_
    k_steps
    delta Stop
    refine lcf_cell N rfl (.tail _ (.tail _ (.tail _ mc'))) hcell ?_ rfl rfl
    k_steps
    delta Stop
    refine LCgL.ld_own N (.tail _ (.head _)) hC hx ?_
    k_steps
    delta Stop
    refine item_list (News.isList N (.tail _ (.tail _ (.tail _ ml')))) (by omega) (by omega) hpx ?_
    k_steps
    delta Stop
    refine item_tupleT (l := [_, _]) (News.isTup N (.tail _ (.tail _ (.tail _ mt)))) (by decide) (by decide) rfl rfl ?_
    k_steps
    delta Stop
    refine exc_attr (exc155 w) F (by assumption) N (.tail _ (.tail _ (.tail _ mf))) (.tail _ (.tail _ (.tail _ md))) (exc155 w).msg g1 rfl ?_
    k_steps
    delta Stop
    refine LCgL.ld_own N (.tail _ (.head _)) hC hx ?_
    k_steps
    rename_i T hx10 F2 N2 l2
    obtain ⟨q1, q2, q3, q4⟩ := l2
    have q5 := AllLt.mem q4
    have e0 : (0 : Int) + (i : Int) = i := by omega
    rw [e0] at N2
    refine LCg.CompEnd.intro F2 N2 ((T, _) :: nw) sub4 ⟨⟨Nat.ne_of_gt q1, Nat.ne_of_gt q2, Nat.ne_of_gt q3⟩, off⟩ trivial ?_
    refine ⟨(T, _) :: tl, ts ++ [T], by rw [hnw]; rfl, by simp [hts], by simp, ?_, ?_⟩
    · intro p hp
      rcases List.mem_cons.mp hp with rfl | hp
      · exact ⟨q5 (l9, W.listOf #[] 0) (by rw [hnw]; simp), q5 (d9, o9) (by rw [hnw]; simp)⟩
      · exact htl p hp
    · intro j t x hj hx9
      by_cases hji : j < i
      · rw [List.getElem?_append_left (by omega)] at hj
        exact (hrow j t x hj hx9).mono fun p hp => .tail _ hp
      · have hji' : j = i := by
          have := (List.getElem?_eq_some_iff.mp hj).1
          simp at this; omega
        subst hji'
        rw [List.getElem?_append_right (by omega), hts, Nat.sub_self] at hj
        have hT : T = t := by simpa using hj
        have hxx : ps[j] = x := by rw [List.getElem?_eq_getElem hi] at hx9; exact Option.some.inj hx9
        subst hT hxx
        exact ⟨_, _, _, _, .head _⟩
end
end Mine
end

-- C6
section
open PySem PySem.W PySem.W.X PyProof.Rows PySem.Calls PySem.Spec
set_option Elab.async false
set_option maxRecDepth 100000
set_option maxHeartbeats 4000000
namespace Mine
def WJ (ps : List Pr) (P : Nat → Bool) (b9 : List (Addr × Obj)) (i : Nat) (ys : List Value) (nw : List (Addr × Obj)) : Prop :=
  ∃ (tl : List (Addr × Obj)) (ts : List Addr), nw = tl ++ b9 ∧ ys = ts.map Value.ref ∧ ts.length = (ixAt P i).length ∧
    ∀ (q : Nat) t k, ts[q]? = some t → (ixAt P i)[q]? = some k → ∃ tk n, (t, seqObj "tuple" #[.str (ksOf ps k).2.1 tk, .bool true] n) ∈ tl
def IJ (l9 cN cW D2 I l : Addr) (oN oI : Obj) (c2 : Nat) (us : List Value) (ws : List Str) (j : Nat) (ps : List Pr) (bs : List (Addr × Obj)) (its : List Itm) (mm : Str → Option Value) (nw : List (Addr × Obj)) : Prop :=
  ∃ (q : Nat) (out : List Nat) (c : Nat) (oW : Obj) (vW : Option Value), q ≤ ws.length ∧ its = (us.drop q).map Itm.val ∧ nw = (l9, listOf (out.map (faOf ps)).toArray c) :: (cW, oW) :: (D2, seqObj "list" us.toArray c2) :: (cN, oN) :: (I, oI) :: bs ∧
    oW.data = .cell vW ∧ mm (Str.ofString "found") = some (.ref l9) ∧ mm (Str.ofString "pairs") = some (.ref l) ∧ out.length ≤ 8 * j + q ∧ SelIx ps.length (ksOf ps) (PP (ksOf ps) (j : Int) (ws.take q)) out
section
set_option hygiene false in
local macro_rules | `(tactic| walk_at "eval Name") => `(tactic| ((with_reducible show wpAny _ _ (eval (Expr.Name (Str.ofString "found") _) (envOfC _ _ _ _ _)) _ _ _); (rename Fr _ _ _ _ => lF9); k_dflt (refine nameX_L lF9 m1 ?_)))
local macro_rules | `(tactic| walk_at "eval Name") => `(tactic| ((with_reducible show wpAny _ _ (eval (Expr.Name _ _) (compEnvC _ _ _ _)) _ _ _); refine stop ?_))
local macro_rules
  | `(tactic| walk_at "getAttr ref") => `(tactic| (refine stop ?_))
  | `(tactic| walk_at "subscriptTail") => `(tactic| (refine stop ?_))
  | `(tactic| walk_at "last subscriptTail") => `(tactic| (refine stop ?_))
  | `(tactic| walk_at "call builtin:list.append") => `(tactic| (refine stop ?_))
  | `(tactic| walk_at "exec For") => `(tactic| (refine stop ?_))
  | `(tactic| walk_at "eval ListComp") => `(tactic| (refine stop ?_))
  | `(tactic| walk_at "call type:dict") => `(tactic| (refine stop ?_))
  | `(tactic| walk_at "call builtin:sorted") => `(tactic| (refine stop ?_))
  | `(tactic| walk_at "pyIter ref") => `(tactic| (refine stop ?_))
def LJ (l9 cN cW l : Addr) (ps : List Pr) (bs : List (Addr × Obj)) (its : List Itm) (mm : Str → Option Value) (nw : List (Addr × Obj)) : Prop :=
  ∃ (j : Nat) (out : List Nat) (c : Nat) (oN oW : Obj) (vN vW : Option Value), j ≤ 4 ∧ its = ((List.range 4).drop j).map (fun (i : Nat) => Itm.tok (fun t => .int ((0 : Int) + (i : Int)) t)) ∧ nw = (l9, listOf (out.map (faOf ps)).toArray c) :: (cW, oW) :: (cN, oN) :: bs ∧
    oN.data = .cell vN ∧ oW.data = .cell vW ∧ mm (Str.ofString "found") = some (.ref l9) ∧ mm (Str.ofString "pairs") = some (.ref l) ∧ out.length ≤ 8 * j ∧ SelIx ps.length (ksOf ps) (PP (ksOf ps) (j : Int) []) out
variable {w : World} {mean : ExcName → Option Value} {mg mb : Str → Option Value}
theorem lonce_spec {dp un : Nat} {gd : Option (List Code)} {cn : Str} {cs : Scope} {L a : Addr} {ccd : Value} {cl : List (Str × Addr)} {outer : List Env} {A₀ : Around} {base h₀ : Heap} {m : Str → Option Value} {s : Shared} {Q E : Value → Shared → Prop}
  {l : Addr} {ps : List Pr} {n : Nat} {rest : List (Addr × Obj)}
  (B : Below A₀ base outer h₀) (F : Fr h₀ L s.heap m) (X : (topk.heap_1 w.params).In h₀) (T : Top VW LZ mean mg mb h₀) (hk : cs.kind = .function) (hd : dp + 2 < recursionLimit) (hu : un + 16 < cLine)
  (N : News h₀ L s.heap ((l, seqObj "list" (refsOf ps).toArray n) :: rest)) (hp : PairsIn rest ps) (hlen : ps.length ≤ 8) (hpt : ∀ x ∈ ps, 0 ≤ x.p ∧ x.p < 4)
  (ret : ∀ D c out h' tk', OnceIx ps.length (ksOf ps) out → Fr h₀ L h' m → News h₀ L h' ((D, listOf (out.map (faOf ps)).toArray c) :: (l, seqObj "list" (refsOf ps).toArray n) :: rest) → (∀ p ∈ (l, seqObj "list" (refsOf ps).toArray n) :: rest, p.1 < D) → Q (.ref D) { s with heap := h', toks := tk' }) :
  wpAny (model PR w) (ktrTop dp un gd cn cs L a ccd cl outer) (call (.ref 240) [.ref l]) Q E s := by
  refine wpAny_call ?_
  k_dflt (first | ktr_enter | (refine' code_defC ?k1 ?k2 ?k3 ?k4 ?k5 ?kA ?kF ?kK ?k6 ?k7 ?k8 ?k9 ?kB ?kD ?_ ?c2 ?c3 ?c4; (case kA => exact rfl); (case kF => exact rfl); (case kK => assumption); (case k1 => k_asm); (case k2 => k_asm); (case k3 => k_asm); (case k4 => k_asm); (case k5 => k_asm); (case k6 => k_is); (case k7 => k_is); (case k8 => ktr_room); (case k9 => first | exact BindsTo.of_eq rfl | exact binds_K (by k_in) rfl (by k_is) rfl rfl rfl | fail "k_enter: no rule for these arguments"); (case kB => exact rfl); (case kD => decide +kernel); (case c2 => exact rfl); (case c3 => exact rfl); (case c4 => exact rfl); k_whole; intro g' L' h' tk' cells' FG' F' N' Y' B' X' T' l1; (try k_lt l1); k_cells Y'; (try simp only [List.cons_append, List.nil_append] at N'); (try dsimp only); (try k_lift B'); (try k_fold)))
  k_steps
  rename_i oW0 oN0 dW0 dN0 l9 h9 lt9 h8 F9 N9
  have hN : oN0.data = .cell none := dN0
  have hW : oW0.data = .cell none := dW0
  clear dN0 dW0
  obtain ⟨bs, hbs⟩ : ∃ b, b = (l, seqObj "list" (refsOf ps).toArray n) :: rest := ⟨_, rfl⟩
  have hb : ∀ p ∈ bs, p.1 < L' := by rw [hbs]; exact AllLt.mem (l := (l, seqObj "list" (refsOf ps).toArray n) :: rest) l1
  have hl9 : L' + 1 + 1 < l9 := lt9.1
  delta Stop
  k_dflt (refine For_turns F9 ?_)
  k_steps
  delta Stop
  (rename News _ _ _ _ => N9)
  rename_i F9 _
  refine iter_rangeTurns (n := 4) (by rfl) F9 N9 (by assumption) (small_one (by omega) (by omega) (by omega) (by omega)) (by rw [rangeSize_nat]; rfl) ?_
  intro I lI
  have hIN : L' + 1 < I := lI (L' + 1, oN0) (.tail _ (.tail _ (.head _)))
  have hIW : L' + 1 + 1 < I := lI (L' + 1 + 1, oW0) (.tail _ (.head _))
  have hI9 : l9 < I := lI (l9, W.listOf #[] 0) (.head _)
  have hIb : ∀ p ∈ bs, p.1 < I := fun p hp => lI p (.tail _ (.tail _ (.tail _ (by rw [← hbs]; exact hp))))
  clear lI
  refine itemsRest_of (LJ l9 (L' + 1) (L' + 1 + 1) l ps bs) ?lstep ?lfin _ _ _ ?lJ0
  case lJ0 =>
    refine ⟨0, [], 0, oN0, oW0, none, none, by omega, rfl, by rw [hbs]; rfl, hN, hW, rfl, rfl, by simp, SelIx.start fun i hi => ?_⟩
    rw [ksOf_at (List.getElem?_eq_getElem hi)]
    exact (hpt _ (List.getElem_mem hi)).1
  case lfin =>
    rintro mm nw' ⟨j, out, c, oN, oW, vN, vW, hj, e1, rfl, dN, dW, m1, m2, ho, hsel⟩ h' tk' F N
    have hj4 : j = 4 := by
      have := congrArg List.length e1
      simp at this; omega
    subst hj4
    k_steps
    (rename News _ _ _ _ => N9)
    refine ret l9 c out h' tk' (hsel.fin fun i hi => ?_) (by assumption) (newsSub N9 fun p hp => ?_) fun p hp => ?_
    · rw [ksOf_at (List.getElem?_eq_getElem hi)]
      exact (hpt _ (List.getElem_mem hi)).2
    · rw [hbs]
      rcases List.mem_cons.mp hp with rfl | hp
      · exact .head _
      · exact .tail _ (.tail _ (.tail _ hp))
    · rw [← hbs] at hp
      exact Nat.lt_trans (hb p hp) (Nat.lt_of_succ_lt (Nat.lt_of_succ_lt hl9))
  case lstep =>
    rintro v0 rr mm nw' ⟨j, out, c, oN, oW, vN, vW, hj, e1, rfl, dN, dW, m1, m2, ho, hsel⟩ v h' tk' hv F oI hoI N
    have hj4 : j < 4 := by
      rcases Nat.lt_or_ge j 4 with h | h
      · exact h
      · rw [List.drop_eq_nil_of_le (by simp; omega)] at e1; cases e1
    have hdr : (List.range 4).drop j = j :: (List.range 4).drop (j + 1) := by
      rw [List.drop_eq_getElem_cons (by simp; omega)]; simp
    rw [hdr, List.map_cons] at e1
    injection e1 with e1 e1'
    subst e1
    obtain ⟨t, rfl⟩ := hv
    simp only [List.cons_append, List.nil_append] at N
    have e0 : (0 : Int) + (j : Int) = j := by omega
    dsimp only
    rw [e0]
    k_steps
    have N1 := newsSub N (a := (L' + 1, oN) :: (I, oI) :: (l9, listOf (out.map (faOf ps)).toArray c) :: (L' + 1 + 1, oW) :: bs) fun p hp => by
      revert p
      repeat (refine List.forall_mem_cons.mpr ⟨(by repeat (first | exact List.Mem.head _ | refine List.Mem.tail _ ?_)), ?_⟩)
      exact fun _ h => by repeat (first | exact h | refine List.Mem.tail _ ?_)
    have ne1 : ∀ p ∈ (I, oI) :: (l9, listOf (out.map (faOf ps)).toArray c) :: (L' + 1 + 1, oW) :: bs, p.1 ≠ L' + 1 := fun p hp => by
      revert p
      refine List.forall_mem_cons.mpr ⟨?_, List.forall_mem_cons.mpr ⟨?_, List.forall_mem_cons.mpr ⟨?_, fun p hp => ?_⟩⟩⟩
      · exact Nat.ne_of_gt hIN
      · exact Nat.ne_of_gt (Nat.lt_of_succ_lt hl9)
      · exact Nat.ne_of_gt (Nat.lt_succ_self _)
      · exact Nat.ne_of_lt (Nat.lt_succ_of_lt (hb p hp))
    refine storeX_C F N1 rfl (UpdF.head ne1) dN (fun h2 oN2 F2 N2 dN2 => ?_) rfl rfl
    k_steps
    delta Stop
    have hsz : (refsOf ps).toArray.size = ps.length := by simp [refsOf]
    have ml : (l, seqObj "list" (refsOf ps).toArray n) ∈ bs := by rw [hbs]; exact .head _
    have hpb : PairsIn bs ps := by rw [hbs]; exact hp.mono fun p hp => .tail _ hp
    obtain ⟨b9, hb9⟩ : ∃ b, b = (L' + 1, oN2) :: (I, oI) :: (l9, listOf (out.map (faOf ps)).toArray c) :: (L' + 1 + 1, oW) :: bs := ⟨_, rfl⟩
    rw [← hb9] at N2
    have sb : ∀ p ∈ bs, p ∈ b9 := fun p hp => by rw [hb9]; exact .tail _ (.tail _ (.tail _ (.tail _ hp)))
    refine ListComp_PT (x := Str.ofString "at") (x₂ := Str.ofString "fault") F2 (by rfl) (by with_unfolding_all decide) (by rfl) (by with_unfolding_all decide) (by rfl) (by rfl) (by decide) ?_
    refine nameX_L F2 m2 ?_
    refine SrcPT.ledger (WJ ps (fun k => (ksOf ps k).1 == (j : Int)) b9) (by rfl) F2 N2 (sb _ ml) (by rw [hsz, sizeLine_eq]; omega) ⟨[], [], rfl, rfl, rfl, fun q t k h => by simp at h⟩ ?cstep ?cfin
    case cfin =>
      rintro g ys nw ⟨tl, ts, rfl, rfl, hlt, hts⟩
      unfold LCg.FinE
      intro D h3 tk3 F3 N3 o3
      k_steps
      delta Stop
      rw [hsz] at hlt hts
      refine call_dict_list (knd := PySem.strKind PR w) (vs := ts.map Value.ref) (kvs := (ixAt (fun k => (ksOf ps k).1 == (j : Int)) ps.length).map fun k => ((ksOf ps k).2.1, Value.bool true)) rfl (N3 _ (.head _)).1 (by rw [List.length_map, List.length_map, hlt]) ?dl (fun i hi hi' => ?del) (fun h4 tk4 hd4 hk4 => ?dret)
      case dl => have := ixAt_len (fun k => (ksOf ps k).1 == (j : Int)) ps.length; rw [List.length_map]; omega
      case del =>
        have hi1 : i < ts.length := by rw [List.length_map] at hi; exact hi
        have hi2 : i < (ixAt (fun k => (ksOf ps k).1 == (j : Int)) ps.length).length := by rw [List.length_map] at hi'; exact hi'
        obtain ⟨tk, n4, hm⟩ := hts i _ _ (List.getElem?_eq_getElem hi1) (List.getElem?_eq_getElem hi2)
        refine ⟨ts[i], .str (ksOf ps (ixAt (fun k => (ksOf ps k).1 == (j : Int)) ps.length)[i]).2.1 tk, n4, by simp, ?_, ?_⟩
        · refine Eq.trans (N3 _ (.tail _ (List.mem_append_left _ hm))).1 ?_
          simp
        · rw [List.getElem_map]
          exact strKind_is PR w _ _
      case dret =>
        have lo := F3.notModules (modules_low T'.nolimit)
        have F4 := F3.keeps hk4
        have N4 : News g' L' h4 b9 := fun p hp => ⟨hk4 _ _ (N3 p (.tail _ (List.mem_append_right _ hp))).1, (N3 p (.tail _ (List.mem_append_right _ hp))).2⟩
        clear N3 F3 N2 F2
        dsimp only
        k_steps
        delta Stop
        refine sorted_dict (w := w) rfl F4 N4 lo hd4 (Nat.lt_of_le_of_lt (built_len _ _) ?h64) fun D2 c2 h5 tk5 us ws F5 N5 lt5 hul huw hws hwl hmem => ?_
        case h64 => have := ixAt_len (fun k => (ksOf ps k).1 == (j : Int)) ps.length; rw [List.length_map]; simp only [List.length_nil]; omega
        have hwl8 : ws.length ≤ 8 := by
          have h1 := ixAt_len (fun k => (ksOf ps k).1 == (j : Int)) ps.length
          have h2 := built_len (K := Str) ((ixAt (fun k => (ksOf ps k).1 == (j : Int)) ps.length).map fun k => ((ksOf ps k).2.1, Value.bool true)) []
          rw [List.length_map] at h2
          simp only [List.length_nil] at h2
          omega
        have hwm : ∀ x, x ∈ ws ↔ ∃ k, k < ps.length ∧ (ksOf ps k).1 = (j : Int) ∧ (ksOf ps k).2.1 = x := fun x => by
          rw [hmem, built_keys]
          simp only [List.map_map, List.mem_map, List.map_nil, List.not_mem_nil, false_or, ixAt_mem, Function.comp]
          constructor
          · rintro ⟨k, ⟨h1, h2⟩, h3⟩; exact ⟨k, h1, by simpa using h2, h3⟩
          · rintro ⟨k, h1, h2, h3⟩; exact ⟨k, ⟨h1, by simpa using h2⟩, h3⟩
        clear hd4 hmem hwl N4 F4
        k_steps
        delta Stop
        (rename Fr _ _ _ _ => F6)
        (rename News _ _ _ _ => N6)
        have m1' : (fun y => if y = Str.ofString "words" then some (Value.ref D2) else mm y) (Str.ofString "found") = some (.ref l9) := (if_neg (by decide)).trans m1
        have m2' : (fun y => if y = Str.ofString "words" then some (Value.ref D2) else mm y) (Str.ofString "pairs") = some (.ref l) := (if_neg (by decide)).trans m2
        have dW9 : ∀ p ∈ b9, p.1 ≠ D2 := fun p hp => Nat.ne_of_lt (lt5 p hp)
        have hDN : L' + 1 < D2 := lt5 (L' + 1, oN2) (by rw [hb9]; exact .head _)
        have hDI : I < D2 := lt5 (I, oI) (by rw [hb9]; exact .tail _ (.head _))
        have hD9 : l9 < D2 := Nat.lt_trans hI9 hDI
        have hDW : L' + 1 + 1 < D2 := Nat.lt_trans hIW hDI
        have hDb : ∀ p ∈ bs, p.1 < D2 := fun p hp => Nat.lt_trans (hIb p hp) hDI
        have N7 : News g' L' _ ((l9, listOf (out.map (faOf ps)).toArray c) :: (L' + 1 + 1, oW) :: (D2, seqObj "list" us.toArray c2) :: (L' + 1, oN2) :: (I, oI) :: bs) := newsSub N6 fun p hp => by
          rw [hb9]
          revert p
          repeat (refine List.forall_mem_cons.mpr ⟨(by repeat (first | exact List.Mem.head _ | refine List.Mem.tail _ ?_)), ?_⟩)
          exact fun _ h => by repeat (first | exact h | refine List.Mem.tail _ ?_)
        clear N6
        k_dflt (refine For_turns F6 ?_)
        k_steps
        delta Stop
        refine iter_listTurns (lo := seqObj "list" us.toArray c2) (vs := us) (by rfl) F6 N7 (.tail _ (.tail _ (.head _))) rfl rfl ?_
        intro I3 lI3
        have hJ9 : l9 < I3 := lI3 (l9, _) (.head _)
        have hJW : L' + 1 + 1 < I3 := lI3 (L' + 1 + 1, oW) (.tail _ (.head _))
        have hJD : D2 < I3 := lI3 (D2, _) (.tail _ (.tail _ (.head _)))
        clear lI3
        refine itemsRest_of (IJ l9 (L' + 1) (L' + 1 + 1) D2 I l oN2 oI c2 us ws j ps bs) ?istep ?ifin _ _ _ ?iJ0
        case iJ0 => exact ⟨0, out, c, oW, vW, Nat.zero_le _, rfl, rfl, dW, m1', m2', ho, by rw [List.take_zero]; exact hsel⟩
        case ifin =>
          rintro mm3 nw3 ⟨q, out3, c3, oW3, vW3, hq, e3, rfl, dW3, m13, m23, ho3, hsel3⟩ h6 tk6 F8 N8
          have hqe : q = ws.length := by
            have := congrArg List.length e3
            simp at this; omega
          rw [hqe, List.take_length] at hsel3
          k_steps
          refine ⟨h6, _, mm3, (l9, listOf (out3.map (faOf ps)).toArray c3) :: (L' + 1 + 1, oW3) :: (L' + 1, oN2) :: bs, rfl, F8, newsSub N8 ?nsub, ?off, trivial, j + 1, out3, c3, oN2, oW3, _, _, hj4, e1', rfl, dN2, dW3, m13, m23, by omega, ?_⟩
          case nsub =>
            intro p hp
            dsimp only [List.cons_append, List.nil_append] at hp ⊢
            revert p
            repeat (refine List.forall_mem_cons.mpr ⟨(by repeat (first | exact List.Mem.head _ | refine List.Mem.tail _ ?_)), ?_⟩)
            exact fun _ h => by repeat (first | exact h | refine List.Mem.tail _ ?_)
          case off =>
            intro r hr p hp
            rw [List.mem_singleton.mp hp]
            revert r
            refine List.forall_mem_cons.mpr ⟨?_, List.forall_mem_cons.mpr ⟨?_, List.forall_mem_cons.mpr ⟨?_, fun r hp => ?_⟩⟩⟩
            · exact Nat.ne_of_lt hI9
            · exact Nat.ne_of_lt hIW
            · exact Nat.ne_of_lt hIN
            · exact Nat.ne_of_lt (hIb r hp)
          · exact hsel3.next fun i hi h => (hwm _).mpr ⟨i, hi, h, rfl⟩
        case istep =>
          rintro v0 rr3 mm3 nw3 ⟨q, out3, c3, oW3, vW3, hq, e3, rfl, dW3, m13, m23, ho3, hsel3⟩ v h6 tk6 hv6 F8 oI3 hoI3 N8
          have hql : q < us.length := by
            rcases Nat.lt_or_ge q us.length with h | h
            · exact h
            · rw [List.drop_eq_nil_of_le h] at e3; cases e3
          rw [List.drop_eq_getElem_cons hql, List.map_cons] at e3
          injection e3 with e3 e3'
          subst e3
          obtain ⟨x, hx⟩ : ∃ x, x = ws[q]'(by omega) := ⟨_, rfl⟩
          have hxq : ws[q]? = some x := by rw [hx]; exact List.getElem?_eq_getElem _
          obtain ⟨tx, htx⟩ := huw q x hxq
          have hv7 : v = .str x tx := by
            have h1 : v = us[q] := hv6
            rw [List.getElem?_eq_getElem hql] at htx
            rw [h1]; exact Option.some.inj htx
          subst hv7
          simp only [List.cons_append, List.nil_append] at N8
          have N9 : News g' L' h6 ((L' + 1 + 1, oW3) :: (I3, oI3) :: (l9, listOf (out3.map (faOf ps)).toArray c3) :: (D2, seqObj "list" us.toArray c2) :: (L' + 1, oN2) :: (I, oI) :: bs) := newsSub N8 fun p hp => by
            revert p
            repeat (refine List.forall_mem_cons.mpr ⟨(by repeat (first | exact List.Mem.head _ | refine List.Mem.tail _ ?_)), ?_⟩)
            exact fun _ h => by repeat (first | exact h | refine List.Mem.tail _ ?_)
          clear N8 N7 F6
          have m1 := m13
          k_steps
          refine storeX_C F8 N9 rfl (UpdF.head fun p hp => ?_) dW3 (fun h7 oW4 F9 N10 dW4 => ?_) rfl rfl
          · revert p
            refine List.forall_mem_cons.mpr ⟨?_, List.forall_mem_cons.mpr ⟨?_, List.forall_mem_cons.mpr ⟨?_, List.forall_mem_cons.mpr ⟨?_, List.forall_mem_cons.mpr ⟨?_, fun p hp => ?_⟩⟩⟩⟩⟩
            · exact Nat.ne_of_gt hJW
            · exact Nat.ne_of_gt hl9
            · exact Nat.ne_of_gt hDW
            · exact Nat.ne_of_lt (Nat.lt_succ_self _)
            · exact Nat.ne_of_gt hIW
            · exact Nat.ne_of_lt (Nat.lt_succ_of_lt (Nat.lt_succ_of_lt (hb p hp)))
          clear N9 F8
          k_steps
          delta Stop
          clear m1
          (rename Fr _ _ _ _ => F10)
          obtain ⟨b7, hb7⟩ : ∃ b, b = (L' + 1 + 1, oW4) :: (I3, oI3) :: (l9, listOf (out3.map (faOf ps)).toArray c3) :: (D2, seqObj "list" us.toArray c2) :: (L' + 1, oN2) :: (I, oI) :: bs := ⟨_, rfl⟩
          rw [← hb7] at N10
          have sb7 : ∀ p ∈ bs, p ∈ b7 := fun p hp => by rw [hb7]; exact .tail _ (.tail _ (.tail _ (.tail _ (.tail _ (.tail _ hp)))))
          refine ListComp_PT (x := Str.ofString "at") (x₂ := Str.ofString "fault") F10 (by rfl) (by with_unfolding_all decide) (by rfl) (by with_unfolding_all decide) (by rfl) (by rfl) (by decide) ?_
          refine nameX_L F10 m23 ?_
          refine SrcPT.ledger (fun i ys nw => b7 = nw ∧ ys = (ixAt (fun k => (ksOf ps k).1 == (j : Int) && (ksOf ps k).2.1 == x) i).map (faOf ps)) (by rfl) F10 N10 (sb7 _ ml) (by rw [hsz, sizeLine_eq]; omega) ⟨rfl, rfl⟩ ?dstep ?dfin
          case dfin =>
            rintro g ys nw ⟨rfl, rfl⟩
            unfold LCg.FinE
            intro D3 h8 tk8 F11 N11 o11
            rw [hsz] at N11
            obtain ⟨k0, hk1, hk2, hk3⟩ := (hwm x).mp (by rw [hx]; exact List.getElem_mem _)
            obtain ⟨i0, r0, hix, hi0, hPi, hmin⟩ := ixAt_head (P := fun k => (ksOf ps k).1 == (j : Int) && (ksOf ps k).2.1 == x) hk1 (by rw [hk2, hk3]; simp)
            simp only [Bool.and_eq_true, beq_iff_eq] at hPi hmin
            rw [hix, List.map_cons] at N11
            k_steps
            delta Stop
            have hl11 : Heap.IsList h8 D3 (faOf ps i0 :: List.map (faOf ps) r0).toArray := News.isList N11 (.head _)
            refine tail_any hl11.typeIs slot_list_getitem.lookup (wpAny_getItem_list (x := faOf ps i0) hl11 (by omega) (by omega) rfl ?_) (by with_unfolding_all rfl)
            k_steps
            delta Stop
            have N12 : News g' L' h8 ((l9, listOf (out3.map (faOf ps)).toArray c3) :: (L' + 1 + 1, oW4) :: (I3, oI3) :: (D2, seqObj "list" us.toArray c2) :: (L' + 1, oN2) :: (I, oI) :: bs) := newsSub N11 fun p hp => by
              rw [hb7]
              revert p
              repeat (refine List.forall_mem_cons.mpr ⟨(by repeat (first | exact List.Mem.head _ | refine List.Mem.tail _ ?_)), ?_⟩)
              exact fun _ h => by repeat (first | exact h | refine List.Mem.tail _ ?_)
            clear N11 N10
            have hsz9 : (out3.map (faOf ps)).toArray.size ≤ sizeLine := by
              rw [List.size_toArray, List.length_map, sizeLine_eq]; omega
            refine append_K (by assumption) N12 (Upd.head fun p hp => ?_) (fun h9 F13 N13 => ?_) hsz9
            · revert p
              refine List.forall_mem_cons.mpr ⟨?_, List.forall_mem_cons.mpr ⟨?_, List.forall_mem_cons.mpr ⟨?_, List.forall_mem_cons.mpr ⟨?_, List.forall_mem_cons.mpr ⟨?_, fun p hp => ?_⟩⟩⟩⟩⟩
              · exact Nat.ne_of_lt hl9
              · exact Nat.ne_of_gt hJ9
              · exact Nat.ne_of_gt hD9
              · exact Nat.ne_of_lt (Nat.lt_of_succ_lt hl9)
              · exact Nat.ne_of_gt hI9
              · exact Nat.ne_of_lt (Nat.lt_trans (hb p hp) (Nat.lt_of_succ_lt (Nat.lt_of_succ_lt hl9)))
            clear N12
            k_steps
            (rename News _ _ _ _ => N14)
            (rename Fr _ _ _ _ => F14)
            have hpush : (out3.map (faOf ps)).toArray.push (faOf ps i0) = ((out3 ++ [i0]).map (faOf ps)).toArray := by simp
            rw [hpush] at N14
            refine ⟨h9, _, mm3, (l9, listOf ((out3 ++ [i0]).map (faOf ps)).toArray (c3 + 1)) :: (L' + 1 + 1, oW4) :: (D2, seqObj "list" us.toArray c2) :: (L' + 1, oN2) :: (I, oI) :: bs, rfl, F14, newsSub N14 ?nsub, ?off, ⟨.tail _ (.tail _ (.head _)), trivial⟩, q + 1, out3 ++ [i0], c3 + 1, oW4, _, by omega, e3', rfl, dW4, m13, m23, ?olen, ?osel⟩
            case nsub =>
              intro p hp
              dsimp only [List.cons_append, List.nil_append] at hp ⊢
              revert p
              repeat (refine List.forall_mem_cons.mpr ⟨(by repeat (first | exact List.Mem.head _ | refine List.Mem.tail _ ?_)), ?_⟩)
              exact fun _ h => by repeat (first | exact h | refine List.Mem.tail _ ?_)
            case off =>
              intro r hr p hp
              rw [List.mem_singleton.mp hp]
              revert r
              refine List.forall_mem_cons.mpr ⟨?_, List.forall_mem_cons.mpr ⟨?_, List.forall_mem_cons.mpr ⟨?_, List.forall_mem_cons.mpr ⟨?_, List.forall_mem_cons.mpr ⟨?_, fun r hr => ?_⟩⟩⟩⟩⟩
              · exact Nat.ne_of_lt hJ9
              · exact Nat.ne_of_lt hJW
              · exact Nat.ne_of_lt hJD
              · exact Nat.ne_of_lt (Nat.lt_trans hDN hJD)
              · exact Nat.ne_of_lt (Nat.lt_trans hDI hJD)
              · exact Nat.ne_of_lt (Nat.lt_trans (hDb r hr) hJD)
            case olen => rw [List.length_append, List.length_singleton]; omega
            case osel =>
              rw [List.take_succ, hxq]
              refine hsel3.add (fun y hy => ?_) hi0 hPi.1 hPi.2 fun k hk e => hmin k hk ⟨e.1.trans hPi.1, e.2.trans hPi.2⟩
              obtain ⟨i, hi, rfl⟩ := List.getElem_of_mem hy
              rw [List.length_take] at hi
              rw [List.getElem_take, hx]
              exact (List.pairwise_iff_getElem.mp hws) i q (by omega) (by omega) (by omega)
          case dstep =>
            rintro g i ys nw hi ⟨rfl, rfl⟩ v hv
            have hi' : i < ps.length := by rw [← hsz]; exact hi
            have hpx : (refsOf ps).toArray[i]? = some (.ref (ps[i]).t) := by simp [refsOf, hi']
            rw [hpx] at hv
            obtain rfl := Option.some.inj hv
            obtain ⟨⟨tk9, n9, mt⟩, dx, tp, es, n8, t1, t2, t3, mf, md, g1, g2, g3, g4⟩ := hpb _ (List.getElem_mem hi')
            refine ⟨_, _, _, _, _, rfl, sb7 _ mt, rfl, rfl, ?_⟩
            intro I2 oI2 C oC D mc h3 tk3 E3 hC hx hx2 F3 N3 off ne
            have hki : (ksOf ps i).1 = ps[i].p := by rw [ksOf_at (List.getElem?_eq_getElem hi')]
            have hks : (ksOf ps i).2.1 = ps[i].d.msg := by rw [ksOf_at (List.getElem?_eq_getElem hi')]
            have hfa : faOf ps i = .ref ps[i].f := faOf_at (List.getElem?_eq_getElem hi')
            have mN : (L' + 1, oN2) ∈ b7 := by rw [hb7]; exact .tail _ (.tail _ (.tail _ (.tail _ (.head _))))
            have mW : (L' + 1 + 1, oW4) ∈ b7 := by rw [hb7]; exact .head _
            k_steps
            delta Stop
            refine LCgL.ld_own N3 (.tail _ (.head _)) hC hx ?_
            k_steps
            delta Stop
            refine lcf_cell N3 rfl (.tail _ (.tail _ (.tail _ mN))) dN2 ?_ rfl rfl
            k_steps
            · rename_i hpj
              delta Stop
              refine LCgL.ld_own N3 (.tail _ (.head _)) hC hx2 ?_
              k_steps
              delta Stop
              refine exc_attr (exc155 w) F3 (by assumption) N3 (.tail _ (.tail _ (.tail _ (sb7 _ mf)))) (.tail _ (.tail _ (.tail _ (sb7 _ md)))) (exc155 w).msg g1 rfl ?_
              k_steps
              delta Stop
              refine lcf_cell N3 rfl (.tail _ (.tail _ (.tail _ mW))) dW4 ?_ rfl rfl
              k_steps
              · rename_i hpx
                have hP : ((ksOf ps i).1 == (j : Int) && (ksOf ps i).2.1 == x) = true := by rw [hki, hpj, hks, hpx]; simp
                delta Stop
                refine LCgL.ld_own N3 (.tail _ (.head _)) hC hx2 ?_
                k_steps
                refine LCg.CompEnd.intro F3 N3 b7 (fun p hp => hp) off (.inr ⟨_, sb7 _ ml, rfl, _, rfl⟩) ⟨rfl, ?_⟩
                rw [ixAt_succ, if_pos hP, List.map_append, ← hfa]; rfl
              · rename_i hpx
                have hP : ¬ (((ksOf ps i).1 == (j : Int) && (ksOf ps i).2.1 == x) = true) := by rw [hks]; simp [hpx]
                refine LCg.CompEnd.intro F3 N3 b7 (fun p hp => hp) off (.inr ⟨_, sb7 _ ml, rfl, _, rfl⟩) ⟨rfl, ?_⟩
                rw [ixAt_succ, if_neg hP, List.append_nil]
            · rename_i hpj
              have hP : ¬ (((ksOf ps i).1 == (j : Int) && (ksOf ps i).2.1 == x) = true) := by rw [hki]; simp [hpj]
              refine LCg.CompEnd.intro F3 N3 b7 (fun p hp => hp) off (.inr ⟨_, sb7 _ ml, rfl, _, rfl⟩) ⟨rfl, ?_⟩
              rw [ixAt_succ, if_neg hP, List.append_nil]
    case cstep =>
      rintro g i ys nw hi ⟨tl, ts, rfl, rfl, hlt, hts⟩ v hv
      have hi' : i < ps.length := by rw [← hsz]; exact hi
      have hpx : (refsOf ps).toArray[i]? = some (.ref (ps[i]).t) := by simp [refsOf, hi']
      rw [hpx] at hv
      obtain rfl := Option.some.inj hv
      obtain ⟨⟨tk9, n9, mt⟩, dx, tp, es, n8, t1, t2, t3, mf, md, g1, g2, g3, g4⟩ := hpb _ (List.getElem_mem hi')
      refine ⟨_, _, _, _, _, rfl, List.mem_append_right _ (sb _ mt), rfl, rfl, ?_⟩
      intro I2 oI2 C oC D mc h3 tk3 E3 hC hx hx2 F3 N3 off ne
      have hki : (ksOf ps i).1 = ps[i].p := by rw [ksOf_at (List.getElem?_eq_getElem hi')]
      have hks : (ksOf ps i).2.1 = ps[i].d.msg := by rw [ksOf_at (List.getElem?_eq_getElem hi')]
      have mN : (L' + 1, oN2) ∈ tl ++ b9 := List.mem_append_right _ (by rw [hb9]; exact .head _)
      k_steps
      delta Stop
      refine LCgL.ld_own N3 (.tail _ (.head _)) hC hx ?_
      k_steps
      delta Stop
      refine lcf_cell N3 rfl (.tail _ (.tail _ (.tail _ mN))) dN2 ?_ rfl rfl
      k_steps
      · rename_i hpj
        have hP : ((ksOf ps i).1 == (j : Int)) = true := by rw [hki, hpj]; exact beq_self_eq_true _
        delta Stop
        refine LCgL.ld_own N3 (.tail _ (.head _)) hC hx2 ?_
        k_steps
        delta Stop
        refine exc_attr (exc155 w) F3 (by assumption) N3 (.tail _ (.tail _ (.tail _ (List.mem_append_right _ (sb _ mf))))) (.tail _ (.tail _ (.tail _ (List.mem_append_right _ (sb _ md))))) (exc155 w).msg g1 rfl ?_
        k_steps
        rename_i T _ F4 N4 l4
        obtain ⟨q1, q2, q3, q4⟩ := l4
        refine LCg.CompEnd.intro F4 N4 ((T, _) :: (tl ++ b9)) sub4 ⟨⟨Nat.ne_of_gt q1, Nat.ne_of_gt q2, Nat.ne_of_gt q3⟩, off⟩ (.inr ⟨_, .tail _ (List.mem_append_right _ (sb _ ml)), rfl, _, rfl⟩) ?_
        refine ⟨(T, _) :: tl, ts ++ [T], rfl, by simp, ?_, ?_⟩
        · rw [ixAt_succ, if_pos hP, List.length_append, List.length_append, hlt]; rfl
        · intro q t k hq hk9
          rw [ixAt_succ, if_pos hP] at hk9
          by_cases hqi : q < ts.length
          · rw [List.getElem?_append_left hqi] at hq
            rw [List.getElem?_append_left (by omega)] at hk9
            obtain ⟨u1, u2, u3⟩ := hts q t k hq hk9
            exact ⟨u1, u2, .tail _ u3⟩
          · have := (List.getElem?_eq_some_iff.mp hq).1
            rw [List.length_append, List.length_singleton] at this
            have hqe : q = ts.length := by omega
            rw [hqe, List.getElem?_append_right (by omega), Nat.sub_self] at hq
            rw [hqe, hlt, List.getElem?_append_right (by omega), Nat.sub_self] at hk9
            have h1 : T = t := by simpa using hq
            have h2 : i = k := by simpa using hk9
            subst h1 h2
            rw [hks]
            exact ⟨_, _, .head _⟩
      · rename_i hpj
        have hP : ¬ (((ksOf ps i).1 == (j : Int)) = true) := by rw [hki]; simpa using hpj
        refine LCg.CompEnd.intro F3 N3 (tl ++ b9) (fun p hp => hp) off (.inr ⟨_, List.mem_append_right _ (sb _ ml), rfl, _, rfl⟩) ?_
        refine ⟨tl, ts, rfl, rfl, ?_, ?_⟩
        · rw [ixAt_succ, if_neg hP, List.append_nil]; exact hlt
        · rw [ixAt_succ, if_neg hP, List.append_nil]; exact hts
end
end Mine
end

-- C7
section
open PySem PySem.W PySem.W.X PyProof.Rows PySem.Calls PySem.Spec
set_option Elab.async false
set_option maxRecDepth 100000
set_option maxHeartbeats 4000000
namespace Mine
def RowT (nw : List (Addr × Obj)) (t : Addr) (d : FD) : Prop := ∃ t1 t2 t3 n, (t, seqObj "tuple" #[.str d.kind t1, .str d.msg t2, .int d.spot t3, .ref d.rows] n) ∈ nw
def RowsJ (ps : List Pr) (out : List Nat) (b7 : List (Addr × Obj)) (i : Nat) (ys : List Value) (nw : List (Addr × Obj)) : Prop :=
  ∃ (tl : List (Addr × Obj)) (ts : List Addr), nw = tl ++ b7 ∧ ys = ts.map Value.ref ∧ ts.length = i ∧ ∀ (q : Nat) t k x, ts[q]? = some t → out[q]? = some k → ps[k]? = some x → RowT tl t x.d
theorem all_tt (n : Nat) : ((List.range n).all fun _ => true) = true := List.all_eq_true.mpr fun _ _ => rfl
theorem ne_lists_same {prog : Program} {w : World} {A : Around} {E : Value → Shared → Prop} {s : Shared} {l b : Addr} {xs ys : Array Value} {Q : Value → Shared → Prop} (hl : s.heap.IsList l xs) (hb : s.heap.IsList b ys) (hsz : xs.size = ys.size) (hu : A.units < cLine)
    (he : ∀ j (h1 : j < xs.size) (h2 : j < ys.size), SeqAt.EqAt A.in1 s xs[j] ys[j] true) (h : Q (.bool false) s) : wpAny (model prog w) A (compareOp .NotEq (.ref l) (.ref b)) Q E s := by
  refine SeqAt.RcNeAt.lists hl hb hsz hu (e := fun _ => true) he prog w E Q ?_
  rw [all_tt]; exact h
theorem eq_ss {A : Around} {s : Shared} (k : Str) (t u : Tok) : SeqAt.EqAt A s (.str k t) (.str k u) true := by
  have := SeqAt.EqAt.str_str (A := A) (s := s) k t k u
  simpa using this
theorem eq_ii {A : Around} {s : Shared} (k : Int) (t u : Tok) : SeqAt.EqAt A s (.int k t) (.int k u) true := by
  have := SeqAt.EqAt.int_int (A := A) (s := s) k t k u
  simpa using this
theorem eqN {A : Around} {s : Shared} {ys : Array Value} : ∀ j (h1 : j < (#[] : Array Value).size) (h2 : j < ys.size), SeqAt.EqAt A s (#[] : Array Value)[j] ys[j] true := fun _ h1 _ => absurd h1 (Nat.not_lt_zero _)
theorem eqC {A : Around} {s : Shared} {x y : Value} {xs ys : List Value} (h : SeqAt.EqAt A s x y true) (hs : ∀ j (h1 : j < xs.toArray.size) (h2 : j < ys.toArray.size), SeqAt.EqAt A s xs.toArray[j] ys.toArray[j] true) : ∀ j (h1 : j < (x :: xs).toArray.size) (h2 : j < (y :: ys).toArray.size), SeqAt.EqAt A s (x :: xs).toArray[j] (y :: ys).toArray[j] true
  | 0, _, _ => h
  | j + 1, h1, h2 => hs j (Nat.lt_of_succ_lt_succ h1) (Nat.lt_of_succ_lt_succ h2)
theorem rowT_eq {A : Around} {s : Shared} {h₀ : Heap} {L t u : Addr} {a b : List (Addr × Obj)} {d : FD} (N1 : News h₀ L s.heap a) (N2 : News h₀ L s.heap b) (h1 : RowT a t d) (h2 : RowT b u d) (hu : A.units < cLine) : SeqAt.EqAt A s (.ref t) (.ref u) true := by
  by_cases e : t = u
  · subst e; exact SeqAt.EqAt.same _
  obtain ⟨t1, t2, t3, n, m1⟩ := h1
  obtain ⟨u1, u2, u3, n', m2⟩ := h2
  refine SeqAt.EqAt.of_refs e ?_
  have := SeqAt.RcAt.tuples (A := A) (s := s) (e := fun _ => true) (News.isTup N1 m1) (News.isTup N2 m2) hu (eqC (eq_ss _ _ _) (eqC (eq_ss _ _ _) (eqC (eq_ii _ _ _) (eqC (SeqAt.EqAt.same _) eqN))))
  have e2 : ((List.range (min (#[Value.str d.kind t1, .str d.msg t2, .int d.spot t3, .ref d.rows] : Array Value).size (#[Value.str d.kind u1, .str d.msg u2, .int d.spot u3, .ref d.rows] : Array Value).size)).all fun _ => true) = true := all_tt _
  rw [e2] at this
  exact this
section
local macro_rules | `(tactic| walk_at "eval Name") => `(tactic| ((with_reducible show wpAny _ _ (eval (Expr.Name _ _) (compEnvC _ _ _ _)) _ _ _); refine stop ?_))
local macro_rules
  | `(tactic| walk_at "getAttr ref") => `(tactic| (refine stop ?_))
  | `(tactic| walk_at "eval ListComp") => `(tactic| (refine stop ?_))
variable {w : World} {mean : ExcName → Option Value} {mg mb : Str → Option Value}
theorem rows_spec {dp un : Nat} {gd : Option (List Code)} {cn : Str} {cs : Scope} {L a : Addr} {ccd : Value} {cl : List (Str × Addr)} {outer : List Env} {A₀ : Around} {base h₀ : Heap} {m : Str → Option Value} {s : Shared} {Q E : Value → Shared → Prop}
  {D : Addr} {ps : List Pr} {out : List Nat} {c : Nat} {rest : List (Addr × Obj)}
  (B : Below A₀ base outer h₀) (F : Fr h₀ L s.heap m) (X : (topk.heap_1 w.params).In h₀) (T : Top VW LZ mean mg mb h₀) (hk : cs.kind = .function) (hd : dp + 2 < recursionLimit) (hu : un + 16 < cLine)
  (N : News h₀ L s.heap ((D, listOf (out.map (faOf ps)).toArray c) :: rest)) (hp : PairsIn rest ps) (hlen : out.length ≤ 1000) (ho : ∀ k ∈ out, k < ps.length)
  (ret : ∀ (R : Addr) (c2 : Nat) (ts : List Addr) (tl : List (Addr × Obj)) (h' : Heap) (tk' : Nat), ts.length = out.length → (∀ (q : Nat) t k x, ts[q]? = some t → out[q]? = some k → ps[k]? = some x → RowT tl t x.d) → Fr h₀ L h' m →
    News h₀ L h' ((R, seqObj "list" (ts.map Value.ref).toArray c2) :: tl ++ (D, listOf (out.map (faOf ps)).toArray c) :: rest) → Q (.ref R) { s with heap := h', toks := tk' }) :
  wpAny (model PR w) (ktrTop dp un gd cn cs L a ccd cl outer) (call (.ref 245) [.ref D]) Q E s := by
  refine wpAny_call ?_
  k_dflt (first | ktr_enter | (refine' code_defC ?k1 ?k2 ?k3 ?k4 ?k5 ?kA ?kF ?kK ?k6 ?k7 ?k8 ?k9 ?kB ?kD ?_ ?c2 ?c3 ?c4; (case kA => exact rfl); (case kF => exact rfl); (case kK => assumption); (case k1 => k_asm); (case k2 => k_asm); (case k3 => k_asm); (case k4 => k_asm); (case k5 => k_asm); (case k6 => k_is); (case k7 => k_is); (case k8 => ktr_room); (case k9 => first | exact BindsTo.of_eq rfl | exact binds_K (by k_in) rfl (by k_is) rfl rfl rfl | fail "k_enter: no rule for these arguments"); (case kB => exact rfl); (case kD => decide +kernel); (case c2 => exact rfl); (case c3 => exact rfl); (case c4 => exact rfl); k_whole; intro g' L' h' tk' cells' FG' F' N' Y' B' X' T' l1; (try k_lt l1); k_cells Y'; (try simp only [List.cons_append, List.nil_append] at N'); (try dsimp only); (try k_lift B'); (try k_fold)))
  k_steps
  delta Stop
  (rename News _ _ _ _ => N9)
  (rename_i F9)
  have hsz : (out.map (faOf ps)).toArray.size = out.length := by simp
  k_dflt (refine LCg.ListComp_U (x := Str.ofString "fault") (F₀ := by k_asm) (by rfl) (by with_unfolding_all decide) (by rfl) (by with_unfolding_all decide) (by rfl) ?_)
  k_steps
  clear F9
  (rename Fr _ _ _ _ => F9)
  refine LCg.CompSrc.ledger (by rfl) F9 N9 (.head _) (by rw [hsz, sizeLine_eq]; omega) fun g => ?_
  rw [hsz]
  obtain ⟨b7, hb7⟩ : ∃ b, b = (D, listOf (out.map (faOf ps)).toArray c) :: rest := ⟨_, rfl⟩
  have ml : (D, listOf (out.map (faOf ps)).toArray c) ∈ b7 := by rw [hb7]; exact .head _
  have hpb : PairsIn b7 ps := by rw [hb7]; exact hp.mono fun p hp => .tail _ hp
  rw [← hb7] at N9
  refine compRest_of (n := out.length) (RowsJ ps out b7) ?step ?fin out.length 0 [] _ (by omega) ?J0
  case J0 => exact ⟨[], [], by rw [hb7]; rfl, rfl, rfl, fun _ _ _ _ h => by simp at h⟩
  case fin =>
    rintro ys nw ⟨tl, ts, rfl, rfl, hts, hrow⟩
    unfold LCg.FinE
    intro R h tk F N off
    k_steps
    (rename News _ _ _ _ => N8)
    rw [hb7] at N8
    exact ret R _ ts tl h tk hts hrow (by assumption) N8
  case step =>
    rintro i ys nw hi ⟨tl, ts, rfl, rfl, hts, hrow⟩ v I oI C oC D2 m₂ h tk E' hv hC hx F N off ne
    have hk1 := ho _ (List.getElem_mem hi)
    have hfa : faOf ps out[i] = .ref ps[out[i]].f := faOf_at (List.getElem?_eq_getElem hk1)
    have hv2 : v = .ref ps[out[i]].f := by
      have h1 : (out.map (faOf ps)).toArray[i]? = some (faOf ps out[i]) := by simp [hi]
      rw [h1] at hv
      rw [← hfa]; exact (Option.some.inj hv).symm
    subst hv2
    obtain ⟨_, dx, tp, es, n8, t1, t2, t3, mf, md, g1, g2, g3, g4⟩ := hpb _ (List.getElem_mem hk1)
    have mf9 := List.mem_append_right tl mf
    have md9 := List.mem_append_right tl md
    k_steps
    delta Stop
    refine LCgL.ld_own N (.tail _ (.head _)) hC hx ?_
    k_steps
    delta Stop
    refine exc_attr (exc155 w) F (by assumption) N (.tail _ (.tail _ (.tail _ mf9))) (.tail _ (.tail _ (.tail _ md9))) (exc155 w).kind g2 rfl ?_
    k_steps
    delta Stop
    refine LCgL.ld_own N (.tail _ (.head _)) hC hx ?_
    k_steps
    delta Stop
    refine exc_attr (exc155 w) F (by assumption) N (.tail _ (.tail _ (.tail _ mf9))) (.tail _ (.tail _ (.tail _ md9))) (exc155 w).msg g1 rfl ?_
    k_steps
    delta Stop
    refine LCgL.ld_own N (.tail _ (.head _)) hC hx ?_
    k_steps
    delta Stop
    refine exc_attr (exc155 w) F (by assumption) N (.tail _ (.tail _ (.tail _ mf9))) (.tail _ (.tail _ (.tail _ md9))) (exc155 w).spot g3 rfl ?_
    k_steps
    delta Stop
    refine LCgL.ld_own N (.tail _ (.head _)) hC hx ?_
    k_steps
    delta Stop
    refine exc_attr (exc155 w) F (by assumption) N (.tail _ (.tail _ (.tail _ mf9))) (.tail _ (.tail _ (.tail _ md9))) (exc155 w).rows g4 rfl ?_
    k_steps
    rename_i T _ F4 N4 l4
    obtain ⟨q1, q2, q3, q4⟩ := l4
    refine LCg.CompEnd.intro F4 N4 ((T, _) :: (tl ++ b7)) sub4 ⟨⟨Nat.ne_of_gt q1, Nat.ne_of_gt q2, Nat.ne_of_gt q3⟩, off⟩ (.inr ⟨_, .tail _ (List.mem_append_right _ ml), rfl, _, rfl⟩) ?_
    refine ⟨(T, _) :: tl, ts ++ [T], rfl, by simp, by simp [hts], ?_⟩
    intro q t k x hq hk9 hx9
    by_cases hqi : q < ts.length
    · rw [List.getElem?_append_left hqi] at hq
      obtain ⟨u1, u2, u3, u4, u5⟩ := hrow q t k x hq hk9 hx9
      exact ⟨u1, u2, u3, u4, .tail _ u5⟩
    · have := (List.getElem?_eq_some_iff.mp hq).1
      rw [List.length_append, List.length_singleton] at this
      have hqe : q = ts.length := by omega
      rw [hqe, List.getElem?_append_right (by omega), Nat.sub_self] at hq
      rw [hqe, hts, List.getElem?_eq_getElem hi] at hk9
      have h1 : T = t := by simpa using hq
      have h2 : out[i] = k := Option.some.inj hk9
      subst h1 h2
      rw [List.getElem?_eq_getElem hk1] at hx9
      have h3 : ps[out[i]] = x := Option.some.inj hx9
      subst h3
      exact ⟨_, _, _, _, .head _⟩
end
end Mine
end

-- C8b
section
open PySem PySem.W PySem.W.X PyProof.Rows PySem.Calls PySem.Spec
set_option Elab.async false
set_option maxRecDepth 100000
set_option maxHeartbeats 4000000
namespace Mine
section
variable {w : World} {mean : ExcName → Option Value} {mg mb : Str → Option Value}
theorem one_use {dp un : Nat} {gd : Option (List Code)} {cn : Str} {cs : Scope} {L a : Addr} {ccd : Value} {cl : List (Str × Addr)} {outer : List Env} {A₀ : Around} {base h₀ : Heap} {m : Str → Option Value} {s : Shared} {Q E : Value → Shared → Prop}
  {src th : Addr} {o ob : Obj} {x y z : Str} {tx ty tz : Tok} {rest : List (Addr × Obj)}
  (B : Below A₀ base outer h₀) (F : Fr h₀ L s.heap m) (X : (topk.heap_1 w.params).In h₀) (T : Top VW LZ mean mg mb h₀) (hk : cs.kind = .function) (hd : dp + 2 < recursionLimit) (hu : un + 16 < cLine)
  (N : News h₀ L s.heap ((src, o) :: (th, ob) :: rest)) (hob : ob = listOf #[.str x tx, .str y ty, .str z tz] 0) (hne : ∀ p ∈ (th, ob) :: rest, p.1 ≠ src) (hs : SrcOk o)
  (ret : ∀ k t o' h' tk', (k = x ∨ k = y ∨ k = z) → SrcOk o' → Fr h₀ L h' m → News h₀ L h' ((src, o') :: rest) → Q (.str k t) { s with heap := h', toks := tk' }) :
  wpAny (model PR w) (ktrTop dp un gd cn cs L a ccd cl outer) (call (.ref 228) [.ref src, .ref th]) Q E s := by
  subst hob
  refine one_spec (vs := [.str x tx, .str y ty, .str z tz]) (n := 0) B F X T hk hd hu N hne hs (Nat.succ_pos _) (by simp) fun v o' h' tk' hv hs' F' N' => ?_
  have N2 : News h₀ L h' ((src, o') :: rest) := newsSub N' fun p hp => by
    rcases List.mem_cons.mp hp with rfl | h
    · exact .head _
    · exact .tail _ (.tail _ h)
  revert v
  refine List.forall_mem_cons.mpr ⟨?_, List.forall_mem_cons.mpr ⟨?_, List.forall_mem_cons.mpr ⟨?_, fun _ h => absurd h List.not_mem_nil⟩⟩⟩
  · exact ret _ _ o' h' tk' (.inl rfl) hs' F' N2
  · exact ret _ _ o' h' tk' (.inr (.inl rfl)) hs' F' N2
  · exact ret _ _ o' h' tk' (.inr (.inr rfl)) hs' F' N2
end
end Mine
end

-- C8
section
open PySem PySem.W PySem.W.X PyProof.Rows PySem.Calls PySem.Spec
set_option Elab.async false
set_option maxRecDepth 100000
set_option maxHeartbeats 4000000
namespace Mine
def FJ (src l9 I : Addr) (rest : List (Addr × Obj)) (n : Nat) (its : List Itm) (mm : Str → Option Value) (nw : List (Addr × Obj)) : Prop :=
  ∃ (i : Nat) (ps : List Pr) (oS : Obj) (c : Nat) (tl : List (Addr × Obj)), i ≤ n ∧ its = ((List.range n).drop i).map (fun (i : Nat) => Itm.tok (fun t => .int ((0 : Int) + (i : Int)) t)) ∧ nw = (src, oS) :: (l9, listOf (refsOf ps).toArray c) :: (tl ++ rest) ∧ SrcOk oS ∧
    ps.length = i ∧ (∀ x ∈ ps, 0 ≤ x.p ∧ x.p < 4) ∧ PairsIn tl ps ∧ (∀ p ∈ tl, p.1 ≠ src ∧ p.1 ≠ l9 ∧ p.1 ≠ I) ∧ mm (Str.ofString "found") = some (.ref l9) ∧ mm (Str.ofString "source") = some (.ref src)
theorem newsSwap {h₀ h : Heap} {L : Addr} {x y : Addr × Obj} {r : List (Addr × Obj)} (N : News h₀ L h (x :: y :: r)) : News h₀ L h (y :: x :: r) := newsSub N fun p hp => by
  revert p
  repeat (refine List.forall_mem_cons.mpr ⟨(by repeat (first | exact List.Mem.head _ | refine List.Mem.tail _ ?_)), ?_⟩)
  exact fun _ h => by repeat (first | exact h | refine List.Mem.tail _ ?_)
theorem newsSkip {h₀ h : Heap} {L : Addr} {x y : Addr × Obj} {r : List (Addr × Obj)} (N : News h₀ L h (x :: y :: r)) : News h₀ L h (x :: r) := newsSub N fun p hp => by
  revert p
  repeat (refine List.forall_mem_cons.mpr ⟨(by repeat (first | exact List.Mem.head _ | refine List.Mem.tail _ ?_)), ?_⟩)
  exact fun _ h => by repeat (first | exact h | refine List.Mem.tail _ ?_)
theorem drop_range {n i : Nat} (h : i < n) : (List.range n).drop i = i :: (List.range n).drop (i + 1) := by
  rw [List.drop_eq_getElem_cons (by simp; omega)]; simp
section
set_option hygiene false in
local macro_rules | `(tactic| walk_at "eval Name") => `(tactic| ((with_reducible show wpAny _ _ (eval (Expr.Name (Str.ofString "found") _) (envOf _ _ _ _ _)) _ _ _); (rename Fr _ _ _ _ => lF9); k_dflt (refine nameX_L lF9 (by first | exact m1 | ((repeat (refine Eq.trans (if_neg (by decide)) ?_)); exact m1)) ?_)))
set_option hygiene false in
local macro_rules | `(tactic| walk_at "eval Name") => `(tactic| ((with_reducible show wpAny _ _ (eval (Expr.Name (Str.ofString "source") _) (envOf _ _ _ _ _)) _ _ _); (rename Fr _ _ _ _ => lF9); k_dflt (refine nameX_L lF9 (by first | exact m2 | ((repeat (refine Eq.trans (if_neg (by decide)) ?_)); exact m2)) ?_)))
local macro_rules
  | `(tactic| walk_at "call ref") => `(tactic| (refine stop ?_))
  | `(tactic| walk_at "exec For") => `(tactic| (refine stop ?_))
  | `(tactic| walk_at "exec For Name Call cons nil") => `(tactic| (refine stop ?_))
  | `(tactic| walk_at "pyIter ref") => `(tactic| (refine stop ?_))
  | `(tactic| walk_at "call builtin:list.append") => `(tactic| (refine stop ?_))
variable {w : World} {mean : ExcName → Option Value} {mg mb : Str → Option Value}
theorem faults_spec {dp un : Nat} {gd : Option (List Code)} {cn : Str} {cs : Scope} {L a : Addr} {ccd : Value} {cl : List (Str × Addr)} {outer : List Env} {A₀ : Around} {base h₀ : Heap} {m : Str → Option Value} {s : Shared} {Q E : Value → Shared → Prop}
  {src : Addr} {o : Obj} {rest : List (Addr × Obj)}
  (B : Below A₀ base outer h₀) (F : Fr h₀ L s.heap m) (X : (topk.heap_1 w.params).In h₀) (T : Top VW LZ mean mg mb h₀) (hk : cs.kind = .function) (hd : dp + 20 < recursionLimit) (hu : un + 100 < cLine) (hdp : dp ≤ 350) (hun : un ≤ 300)
  (N : News h₀ L s.heap ((src, o) :: rest)) (hne : ∀ p ∈ rest, p.1 ≠ src) (hs : SrcOk o)
  (ret : ∀ (D : Addr) (c : Nat) (ps : List Pr) (o' : Obj) (tl : List (Addr × Obj)) (h' : Heap) (tk' : Nat), SrcOk o' → ps.length ≤ 8 → (∀ x ∈ ps, 0 ≤ x.p ∧ x.p < 4) → PairsIn tl ps → Fr h₀ L h' m →
    News h₀ L h' ((src, o') :: (D, listOf (refsOf ps).toArray c) :: tl ++ rest) → (∀ p ∈ (D, listOf (refsOf ps).toArray c) :: tl ++ rest, p.1 ≠ src) → Q (.ref D) { s with heap := h', toks := tk' }) :
  wpAny (model PR w) (ktrTop dp un gd cn cs L a ccd cl outer) (call (.ref 235) [.ref src]) Q E s := by
  refine wpAny_call ?_
  k_dflt (first | ktr_enter | (refine' code_defC ?k1 ?k2 ?k3 ?k4 ?k5 ?kA ?kF ?kK ?k6 ?k7 ?k8 ?k9 ?kB ?kD ?_ ?c2 ?c3 ?c4; (case kA => exact rfl); (case kF => exact rfl); (case kK => assumption); (case k1 => k_asm); (case k2 => k_asm); (case k3 => k_asm); (case k4 => k_asm); (case k5 => k_asm); (case k6 => k_is); (case k7 => k_is); (case k8 => ktr_room); (case k9 => first | exact BindsTo.of_eq rfl | exact binds_K (by k_in) rfl (by k_is) rfl rfl rfl | fail "k_enter: no rule for these arguments"); (case kB => exact rfl); (case kD => decide +kernel); (case c2 => exact rfl); (case c3 => exact rfl); (case c4 => exact rfl); k_whole; intro g' L' h' tk' cells' FG' F' N' Y' B' X' T' l1; (try k_lt l1); k_cells Y'; (try simp only [List.cons_append, List.nil_append] at N'); (try dsimp only); (try k_lift B'); (try k_fold)))
  k_steps
  delta Stop
  (rename Fr _ _ _ _ => F9)
  (rename News _ _ _ _ => N9)
  k_dflt (refine For_turns F9 ?_)
  k_steps
  delta Stop
  rename_i l9 _ lt9 _
  have N8 := newsSub N9 (a := (src, o) :: (l9, listOf #[] 0) :: rest) fun p hp => by
    revert p
    repeat (refine List.forall_mem_cons.mpr ⟨(by repeat (first | exact List.Mem.head _ | refine List.Mem.tail _ ?_)), ?_⟩)
    exact fun _ h => by repeat (first | exact h | refine List.Mem.tail _ ?_)
  clear N9
  have ne8 : ∀ p ∈ (l9, listOf #[] 0) :: rest, p.1 ≠ src := fun p hp => by
    rcases List.mem_cons.mp hp with rfl | hp
    · exact Nat.ne_of_gt lt9.1
    · exact hne p hp
  k_dflt (refine' take_use ?b1 F9 ?b2 ?b3 ?b4 ?b5 ?b6 N8 ne8 hs ?b7 ?b8 ?b9)
  case b1 => k_asm
  case b2 => k_asm
  case b3 => k_asm
  case b4 => exact rfl
  case b5 => ktr_room
  case b6 => ktr_units
  case b7 => omega
  case b8 => omega
  intro d td o2 h2 tk2 hd0 hd9 hs2 F7 N7
  clear F9 N8 ne8
  k_steps
  delta Stop
  rename_i _ _ _ _ _ hir F9 N9 _
  refine iter_rangeTurns (n := d.toNat) (by rfl) F9 N9 hir (small_one (by omega) (by omega) (by omega) (by omega)) (by rw [rangeSize_nat]; simp) ?_
  intro I lI
  have hIs : src < I := lI _ (.head _)
  have hI9 : l9 < I := lI _ (.tail _ (.head _))
  have hIr : ∀ p ∈ rest, p.1 < I := fun p hp => lI p (.tail _ (.tail _ hp))
  have hr9 : ∀ p ∈ rest, p.1 < l9 := AllLt.mem lt9.2
  clear lI
  refine itemsRest_of (FJ src l9 I rest d.toNat) ?lstep ?lfin _ _ _ ?lJ0
  case lJ0 => exact ⟨0, [], o2, 0, [], Nat.zero_le _, rfl, rfl, hs2, rfl, fun _ h => absurd h List.not_mem_nil, fun _ h => absurd h List.not_mem_nil, fun _ h => absurd h List.not_mem_nil, rfl, rfl⟩
  case lfin =>
    rintro mm nw' ⟨i, ps, oS, c, tl, hi, e1, rfl, hS, hlen, hpt, hps, htl, m1, m2⟩ h' tk' F N
    have hid : i = d.toNat := by
      have := congrArg List.length e1
      simp at this; omega
    k_steps
    refine ret l9 c ps oS tl h' tk' hS (by omega) hpt hps (by assumption) (by assumption) fun p hp => ?_
    rcases List.mem_cons.mp hp with rfl | hp
    · exact Nat.ne_of_gt lt9.1
    · rcases List.mem_append.mp hp with hp | hp
      · exact (htl p hp).1
      · exact hne p hp
  case lstep =>
    rintro v0 rr mm nw' ⟨i, ps, oS, c, tl, hi, e1, rfl, hS, hlen, hpt, hps, htl, m1, m2⟩ v h' tk' hv F oI hoI N
    have hid : i < d.toNat := by
      rcases Nat.lt_or_ge i d.toNat with h | h
      · exact h
      · rw [List.drop_eq_nil_of_le (by simp; omega)] at e1; cases e1
    rw [drop_range hid, List.map_cons] at e1
    injection e1 with e1 e1'
    subst e1
    obtain ⟨t, rfl⟩ := hv
    simp only [List.cons_append, List.nil_append] at N
    have e0 : (0 : Int) + (i : Int) = i := by omega
    dsimp only
    rw [e0]
    obtain ⟨bb, hbb⟩ : ∃ b, b = (I, oI) :: (tl ++ rest) := ⟨_, rfl⟩
    have nebb : ∀ p ∈ (l9, listOf (refsOf ps).toArray c) :: bb, p.1 ≠ src := fun p hp => by
      rw [hbb] at hp
      simp only [List.mem_cons, List.mem_append] at hp
      rcases hp with rfl | rfl | hp | hp
      · exact Nat.ne_of_gt lt9.1
      · exact Nat.ne_of_gt hIs
      · exact (htl p hp).1
      · exact hne p hp
    have N0 : News _ _ _ ((src, oS) :: (l9, listOf (refsOf ps).toArray c) :: bb) := newsSub N fun p hp => by
      rw [hbb] at hp
      revert p
      repeat (refine List.forall_mem_cons.mpr ⟨(by repeat (first | exact List.Mem.head _ | refine List.Mem.tail _ ?_)), ?_⟩)
      exact fun _ h => by repeat (first | exact h | refine List.Mem.tail _ ?_)
    clear N
    k_steps
    delta Stop
    rename_i h8 _ th h9 aF aN lth
    have aN1 := newsSwap aN
    clear aN
    have aS := hS
    k_dflt (refine' one_use ?a1 aF ?a2 ?a3 ?a4 ?a5 ?a6 aN1 ?a0 ?a7 aS ?a8)
    case a1 => k_asm
    case a2 => k_asm
    case a3 => k_asm
    case a4 => exact rfl
    case a5 => ktr_room
    case a6 => ktr_units
    case a0 => exact rfl
    case a7 =>
      intro p hp
      rcases List.mem_cons.mp hp with rfl | hp
      · exact Nat.ne_of_gt lth.1
      · exact nebb p hp
    intro kd tkd o1 h1 tk1 hkd bS bF bN0
    have hkd2 : 0 < kd.length ∧ kd.length ≤ 100 := by rcases hkd with rfl | rfl | rfl <;> exact ⟨by decide +kernel, by decide +kernel⟩
    clear aN1 aF
    k_steps
    delta Stop
    rename_i h12 _ th2 h13 cF cN lth2
    have cN1 := newsSwap cN
    clear cN
    k_dflt (refine' one_use ?c1 cF ?c2 ?c3 ?c4 ?c5 ?c6 cN1 ?c0 ?c7 bS ?c8)
    case c1 => k_asm
    case c2 => k_asm
    case c3 => k_asm
    case c4 => exact rfl
    case c5 => ktr_room
    case c6 => ktr_units
    case c0 => exact rfl
    case c7 =>
      intro p hp
      rcases List.mem_cons.mp hp with rfl | hp
      · exact Nat.ne_of_gt lth2.1
      · exact nebb p hp
    intro pl tkp o3 h3 tk3 hpl dS dF dN
    have hpl2 : 0 < pl.length ∧ pl.length ≤ 100 := by rcases hpl with rfl | rfl | rfl <;> exact ⟨by decide +kernel, by decide +kernel⟩
    clear cN1 cF
    k_steps
    delta Stop
    (rename Fr _ _ _ _ => eF)
    (rename News _ _ _ _ => eN)
    k_dflt (refine' take_use ?e1 eF ?e2 ?e3 ?e4 ?e5 ?e6 eN nebb dS ?e8 ?e9 ?ez)
    case e1 => k_asm
    case e2 => k_asm
    case e3 => k_asm
    case e4 => exact rfl
    case e5 => ktr_room
    case e6 => ktr_units
    case e8 => omega
    case e9 => omega
    intro pt tpt o4 h4 tk4 hpt0 hpt1 fS fF fN
    clear eN eF
    k_steps
    delta Stop
    (rename Fr _ _ _ _ => fF)
    k_dflt (refine' take_use ?f1 fF ?f2 ?f3 ?f4 ?f5 ?f6 fN nebb fS ?f8 ?f9 ?fz)
    case f1 => k_asm
    case f2 => k_asm
    case f3 => k_asm
    case f4 => exact rfl
    case f5 => ktr_room
    case f6 => ktr_units
    case f8 => omega
    case f9 => omega
    intro sp tsp o5 h5 tk5 hsp0 hsp1 gS gF gN
    clear fN fF
    k_steps
    delta Stop
    (rename Fr _ _ _ _ => gF)
    (rename News _ _ _ _ => gN)
    rename_i tu _ ltu rl _ ltr
    k_dflt (refine' borrow_use ?hb1 ?hb2 gF ?hb3 gN (.head _) hkd2.1 hkd2.2 hpl2.1 hpl2.2 ?hb5)
    case hb1 => (show dp + 1 ≤ 400); omega
    case hb2 => (change un + _ ≤ 500); omega
    case hb3 => k_asm
    intro f dx tp rt h6 tk6 es n6 n7 u1 u2 u3 hF hN hfr q1 q2 q3 q4
    clear gF gN
    dsimp only
    k_steps
    delta Stop
    (rename Fr _ _ _ _ => iF)
    (rename News _ _ _ _ => iN)
    rename_i D _ lD
    have hlen9 : (refsOf ps).toArray.size ≤ sizeLine := by
      rw [List.size_toArray, refsOf, List.length_map, sizeLine_eq]; omega
    obtain ⟨z1, z2, z3, z4, z5, z6, z7, z8⟩ := lD
    have iN2 : News _ _ _ ((l9, listOf (refsOf ps).toArray c) :: (D, seqObj "tuple" #[.int pt tpt, .ref f] 0) :: (f, excObj 155 dx tp) :: (dx, dictOf es n6) :: (rt, seqObj "tuple" #[.ref tu] n7) :: (src, o5) :: bb) := newsSub iN fun p hp => by
      simp only [List.mem_cons] at hp ⊢
      rcases hp with h | h | h | h | h | h | h
      all_goals first | (right; simp [h]; done) | (left; exact h) | simp [h]
    have hfs := hfr (src, o5) (.tail _ (.tail _ (.head _)))
    have hf9 := hfr (l9, listOf (refsOf ps).toArray c) (.tail _ (.tail _ (.tail _ (.head _))))
    have mI : (I, oI) ∈ bb := by rw [hbb]; exact .head _
    have hfI := hfr (I, oI) (.tail _ (.tail _ (.tail _ (.tail _ mI))))
    have hID : I < D := AllLt.mem z8 _ mI
    have ne9 : ∀ p ∈ (D, seqObj "tuple" #[.int pt tpt, .ref f] 0) :: (f, excObj 155 dx tp) :: (dx, dictOf es n6) :: (rt, seqObj "tuple" #[.ref tu] n7) :: (src, o5) :: bb, p.1 ≠ l9 := fun p hp => by
      rw [hbb] at hp
      simp only [List.mem_cons, List.mem_append] at hp
      rcases hp with rfl | rfl | rfl | rfl | rfl | rfl | hp | hp
      · exact Nat.ne_of_gt z7
      · exact hf9.1.symm
      · exact hf9.2.1.symm
      · exact hf9.2.2.symm
      · exact Nat.ne_of_lt lt9.1
      · exact Nat.ne_of_gt hI9
      · exact (htl p hp).2.1
      · exact Nat.ne_of_lt (hr9 p hp)
    refine append_K iF iN2 (Upd.head ne9) (fun h7 jF jN => ?_) hlen9
    clear iN iN2 iF
    k_steps
    (rename Fr _ _ _ _ => jF)
    (rename News _ _ _ _ => jN)
    have hpush : (refsOf ps).toArray.push (.ref D) = (refsOf (ps ++ [⟨D, pt, f, ⟨kd ++ sep ++ pl, kd, sp, rt⟩⟩])).toArray := by simp [refsOf]
    rw [hpush] at jN
    refine ⟨h7, _, _, (src, o5) :: (l9, listOf (refsOf (ps ++ [⟨D, pt, f, ⟨kd ++ sep ++ pl, kd, sp, rt⟩⟩])).toArray (c + 1)) :: (((D, seqObj "tuple" #[.int pt tpt, .ref f] 0) :: (f, excObj 155 dx tp) :: (dx, dictOf es n6) :: (rt, seqObj "tuple" #[.ref tu] n7) :: tl) ++ rest), rfl, jF, newsSub jN ?nsub, ?off, trivial,
      i + 1, ps ++ [⟨D, pt, f, ⟨kd ++ sep ++ pl, kd, sp, rt⟩⟩], o5, c + 1, _, hid, e1', rfl, gS, by simp [hlen], ?pts, ?prs, ?tls, ?f1, ?f2⟩
    case f1 => exact ((if_neg (by decide)).trans ((if_neg (by decide)).trans ((if_neg (by decide)).trans m1)))
    case f2 => exact ((if_neg (by decide)).trans ((if_neg (by decide)).trans ((if_neg (by decide)).trans m2)))
    case nsub =>
      intro p hp
      rw [hbb]
      dsimp only [List.cons_append, List.nil_append] at hp ⊢
      revert p
      repeat (refine List.forall_mem_cons.mpr ⟨(by repeat (first | exact List.Mem.head _ | refine List.Mem.tail _ ?_)), ?_⟩)
      exact fun _ h => by repeat (first | exact h | refine List.Mem.tail _ ?_)
    case off =>
      intro r hr p hp
      rw [List.mem_singleton.mp hp]
      simp only [List.mem_cons, List.cons_append, List.mem_append] at hr
      rcases hr with rfl | rfl | rfl | rfl | rfl | rfl | hr | hr
      · exact Nat.ne_of_lt hIs
      · exact Nat.ne_of_lt hI9
      · exact Nat.ne_of_gt hID
      · exact hfI.1.symm
      · exact hfI.2.1.symm
      · exact hfI.2.2.symm
      · exact (htl r hr).2.2
      · exact Nat.ne_of_lt (hIr r hr)
    case pts =>
      intro x hx
      rcases List.mem_append.mp hx with hx | hx
      · exact hpt x hx
      · rw [List.mem_singleton.mp hx]; exact ⟨hpt0, hpt1⟩
    case prs =>
      intro x hx
      rcases List.mem_append.mp hx with hx | hx
      · exact hps.mono (fun p hp => .tail _ (.tail _ (.tail _ (.tail _ hp)))) x hx
      · rw [List.mem_singleton.mp hx]
        exact ⟨⟨_, _, .head _⟩, dx, tp, es, n6, u1, u2, u3, .tail _ (.head _), .tail _ (.tail _ (.head _)), q1, q2, q3, q4⟩
    case tls =>
      intro p hp
      revert p
      refine List.forall_mem_cons.mpr ⟨?_, List.forall_mem_cons.mpr ⟨?_, List.forall_mem_cons.mpr ⟨?_, List.forall_mem_cons.mpr ⟨?_, fun p hp => ?_⟩⟩⟩⟩
      · exact ⟨Nat.ne_of_gt z6, Nat.ne_of_gt z7, Nat.ne_of_gt hID⟩
      · exact ⟨hfs.1.symm, hf9.1.symm, hfI.1.symm⟩
      · exact ⟨hfs.2.1.symm, hf9.2.1.symm, hfI.2.1.symm⟩
      · exact ⟨hfs.2.2.symm, hf9.2.2.symm, hfI.2.2.symm⟩
      · exact htl p hp
end
end Mine
end

-- C9
section
open PySem PySem.W PySem.W.X PyProof.Rows PySem.Calls PySem.Spec
set_option Elab.async false
set_option maxRecDepth 100000
set_option maxHeartbeats 8000000
namespace Mine
theorem isList_keep {h₀ h : Heap} {L a : Addr} {m : Str → Option Value} {xs : Array Value} (hl : h₀.IsList a xs) (F : Fr h₀ L h m) : h.IsList a xs := let ⟨o, e, r⟩ := hl; ⟨o, F.keep _ _ e, r⟩
section
variable {w : World} {mean : ExcName → Option Value} {mg mb : Str → Option Value}
theorem pool_spec {dp un : Nat} {gd : Option (List Code)} {cn : Str} {cs : Scope} {L a : Addr} {ccd : Value} {cl : List (Str × Addr)} {outer : List Env} {A₀ : Around} {base h₀ : Heap} {m : Str → Option Value} {s : Shared} {Q E : Value → Shared → Prop}
  {sl : Addr} {vs : List Value} {ns : List Int} {k : Int} {tk : Tok} {rest : List (Addr × Obj)}
  (B : Below A₀ base outer h₀) (F : Fr h₀ L s.heap m) (X : (topk.heap_1 w.params).In h₀) (T : Top VW LZ mean mg mb h₀) (hk : cs.kind = .function) (hd : dp + 20 < recursionLimit) (hu : un + 100 < cLine) (hdp : dp ≤ 350) (hun : un ≤ 300)
  (N : News h₀ L s.heap rest) (hl : h₀.IsList sl vs.toArray) (hi : IntsAre vs ns) (hlen : ns.length ≤ 63) (hk0 : 0 ≤ k) (hk1 : k < 2)
  (ret : ∀ (src : Addr) (o : Obj) (h' : Heap) (tk' : Nat), SrcOk o → Fr h₀ L h' m → News h₀ L h' ((src, o) :: rest) → (∀ p ∈ rest, p.1 ≠ src) → Q (.ref src) { s with heap := h', toks := tk' }) :
  wpAny (model PR w) (ktrTop dp un gd cn cs L a ccd cl outer) (call (.ref 214) [.ref sl, .int k tk]) Q E s := by
  refine wpAny_call ?_
  k_dflt (first | ktr_enter | (refine' code_defC ?k1 ?k2 ?k3 ?k4 ?k5 ?kA ?kF ?kK ?k6 ?k7 ?k8 ?k9 ?kB ?kD ?_ ?c2 ?c3 ?c4; (case kA => exact rfl); (case kF => exact rfl); (case kK => assumption); (case k1 => k_asm); (case k2 => k_asm); (case k3 => k_asm); (case k4 => k_asm); (case k5 => k_asm); (case k6 => k_is); (case k7 => k_is); (case k8 => ktr_room); (case k9 => first | exact BindsTo.of_eq rfl | exact binds_K (by k_in) rfl (by k_is) rfl rfl rfl | fail "k_enter: no rule for these arguments"); (case kB => exact rfl); (case kD => decide +kernel); (case c2 => exact rfl); (case c3 => exact rfl); (case c4 => exact rfl); k_whole; intro g' L' h' tk' cells' FG' F' N' Y' B' X' T' l1; (try k_lt l1); k_cells Y'; (try simp only [List.cons_append, List.nil_append] at N'); (try dsimp only); (try k_lift B'); (try k_fold)))
  have hl9 := isList_keep hl (by assumption)
  clear hl F
  k_steps
  all_goals (
    rename_i hlt kF kN _ _
    refine ret _ _ _ _ ⟨_, _, _, _, _, rfl, ?_, fm_lo _ _ (by omega), fm_hi _ _ (by omega)⟩ kF kN fun p hp => Nat.ne_of_lt (hlt p hp)
    refine Int.mul_nonneg ?_ ?_ <;> split <;> omega)
end
end Mine
end

-- E0
section
open PySem PySem.W PySem.W.X PyProof.Rows PySem.Calls PySem.Spec
set_option Elab.async false
set_option maxRecDepth 100000
set_option maxHeartbeats 0
namespace Mine
def LPost (C : Addr) (s : Shared) (k : Str) (sp : Int) (r : Value) (s' : Shared) : Prop :=
  ∃ (f dx tp : Addr) (h' : Heap) (tk' : Nat) (es : List DictEntry) (n n' : Nat) (news : List (Addr × Obj)) (t1 t3 t4 : Tok), r = .ref f ∧ s' = ⟨h', s.gens, s.drawn, tk', s.os⟩ ∧ Mem s.heap h' [] news ∧ (f, excObj C dx tp) ∈ news ∧ (dx, dictOf es n) ∈ news ∧
    (tp, seqObj "tuple" #[.str k t4] n') ∈ news ∧ getL "message" es = some (some (.str k t1)) ∧ getL "spot" es = some (some (.int sp t3))
theorem lpost_intro {C : Addr} {s : Shared} {k : Str} {sp : Int} {f dx tp : Addr} {h' : Heap} {tk' : Nat} {es : List DictEntry} {n n' : Nat} {news : List (Addr × Obj)} {t1 t3 t4 : Tok} (D : Mem s.heap h' [] news)
  (h1 : (f, excObj C dx tp) ∈ news) (h2 : (dx, dictOf es n) ∈ news) (h3 : (tp, seqObj "tuple" #[.str k t4] n') ∈ news) (h4 : getL "message" es = some (some (.str k t1)))
  (h6 : getL "spot" es = some (some (.int sp t3))) : LPost C s k sp (.ref f) { heap := h', gens := s.gens, drawn := s.drawn, toks := tk', os := s.os } :=
  ⟨f, dx, tp, h', tk', es, n, n', news, t1, t3, t4, rfl, rfl, D, h1, h2, h3, h4, h6⟩
end Mine
end

-- E2
section
open PySem PySem.W PySem.W.X PyProof.Rows PySem.Calls PySem.Spec
set_option Elab.async false
set_option maxRecDepth 100000
set_option maxHeartbeats 0
namespace Mine
section
local macro_rules | `(tactic| x_close) => `(tactic| (refine' lpost_intro (by assumption) ?a ?b ?c ?d ?g; (case a => (repeat (first | exact List.Mem.head _ | refine List.Mem.tail _ ?_))); (case b => (repeat (first | exact List.Mem.head _ | refine List.Mem.tail _ ?_))); (case c => (repeat (first | exact List.Mem.head _ | refine List.Mem.tail _ ?_))); (case d => with_unfolding_all rfl); (case g => with_unfolding_all rfl)))
theorem lend2_G {prog : Program} {w : World} {s : Shared} {t1 t3 : Tok} {k : Str} {sp : Int} (X : (topk.heap_1 w.params).In s.heap) {C NS B1 ST : Addr} {nm : Str} {u1 u2 u3 u4 u5 u6 u7 : Tok} {ln : Int}
  (hC : s.heap.get? C = some (⟨.type "type", none, .cls { name := nm, bases := [.ref 37], mro := [.ref C, .ref 37, .type "Exception", .type "BaseException", .type "object"], ns := NS, qualname := nm }, #[some (.ref B1), none, some (.str nm u1), some (.str nm u2), some (.builtin "Exception.__new__"), some (.bool true)]⟩ : Obj))
  (hN : s.heap.get? NS = some (⟨.type "dict", none, .dict #[⟨PyData.keyHash w.params (Str.ofString "__module__"), .str (Str.ofString "__module__") u3, .str (Str.ofString "lendcore.errors") 195⟩, ⟨PyData.keyHash w.params (Str.ofString "__firstlineno__"), .str (Str.ofString "__firstlineno__") u4, .int ln u5⟩,
    ⟨PyData.keyHash w.params (Str.ofString "__static_attributes__"), .str (Str.ofString "__static_attributes__") u6, .ref ST⟩, ⟨PyData.keyHash w.params (Str.ofString "__doc__"), .str (Str.ofString "__doc__") u7, .none⟩] 2, #[]⟩ : Obj)) (hne : C ≠ 37) (hne2 : 39 < C) (hne3 : NS ≠ 36) :
   wpAny (model prog w) AX (call (.ref C) [.str k t1, .int sp t3]) (LPost C s k sp) (fun _ _ => False) s := by
  have h0 := K_0 X
  x_run
end
end Mine
end

-- E6
section
open PySem PySem.W PySem.W.X PyProof.Rows PySem.Calls PySem.Spec
set_option Elab.async false
set_option maxRecDepth 100000
set_option maxHeartbeats 0
namespace Mine
section
local macro_rules | `(tactic| x_close) => `(tactic| (refine' lpost_intro (by assumption) ?a ?b ?c ?d ?g; (case a => (repeat (first | exact List.Mem.head _ | refine List.Mem.tail _ ?_))); (case b => (repeat (first | exact List.Mem.head _ | refine List.Mem.tail _ ?_))); (case c => (repeat (first | exact List.Mem.head _ | refine List.Mem.tail _ ?_))); (case d => with_unfolding_all rfl); (case g => with_unfolding_all rfl)))
theorem lend1_G {prog : Program} {w : World} {s : Shared} {t1 t3 : Tok} {k : Str} {sp : Int} (X : (topk.heap_1 w.params).In s.heap) {C NS B1 ST : Addr} {nm : Str} {u1 u2 u3 u4 u5 u6 u7 : Tok} {ln : Int}
  (hC : s.heap.get? C = some (⟨.type "type", none, .cls { name := nm, bases := [.ref 37], mro := [.ref C, .ref 37, .type "Exception", .type "BaseException", .type "object"], ns := NS, qualname := nm }, #[some (.ref B1), none, some (.str nm u1), some (.str nm u2), some (.builtin "Exception.__new__"), some (.bool true)]⟩ : Obj))
  (hN : s.heap.get? NS = some (⟨.type "dict", none, .dict #[⟨PyData.keyHash w.params (Str.ofString "__module__"), .str (Str.ofString "__module__") u3, .str (Str.ofString "lendcore.errors") 195⟩, ⟨PyData.keyHash w.params (Str.ofString "__firstlineno__"), .str (Str.ofString "__firstlineno__") u4, .int ln u5⟩,
    ⟨PyData.keyHash w.params (Str.ofString "__static_attributes__"), .str (Str.ofString "__static_attributes__") u6, .ref ST⟩, ⟨PyData.keyHash w.params (Str.ofString "__doc__"), .str (Str.ofString "__doc__") u7, .none⟩] 2, #[]⟩ : Obj)) (hne : C ≠ 37) (hne2 : 39 < C) (hne3 : NS ≠ 36) :
   wpAny (model prog w) AX (call (.ref C) [.str k t1]) (LPost C s k 0) (fun _ _ => False) s := by
  have h0 := K_0 X
  x_run
theorem lend2_37 {prog : Program} {w : World} {s : Shared} {t1 t3 : Tok} {k : Str} {sp : Int} (X : (topk.heap_1 w.params).In s.heap) {C NS B1 ST : Addr} {nm : Str} {u1 u2 u3 u4 u5 u6 u7 : Tok} {ln : Int} (hC : True) (hN : True) (hne : True) (hne2 : True) (hne3 : True) :
   wpAny (model prog w) AX (call (.ref 37) [.str k t1, .int sp t3]) (LPost 37 s k sp) (fun _ _ => False) s := by
  have h0 := K_0 X
  x_run
theorem lend1_37 {prog : Program} {w : World} {s : Shared} {t1 t3 : Tok} {k : Str} {sp : Int} (X : (topk.heap_1 w.params).In s.heap) {C NS B1 ST : Addr} {nm : Str} {u1 u2 u3 u4 u5 u6 u7 : Tok} {ln : Int} (hC : True) (hN : True) (hne : True) (hne2 : True) (hne3 : True) :
   wpAny (model prog w) AX (call (.ref 37) [.str k t1]) (LPost 37 s k 0) (fun _ _ => False) s := by
  have h0 := K_0 X
  x_run
end
end Mine
end

-- E7
section
open PySem PySem.W PySem.W.X PyProof.Rows PySem.Calls PySem.Spec
set_option Elab.async false
set_option maxRecDepth 100000
set_option maxHeartbeats 0
namespace Mine
def SPost (s : Shared) (k : Str) (r : Value) (s' : Shared) : Prop := ∃ t, r = .str k t ∧ s' = s
section
local macro_rules | `(tactic| x_close) => `(tactic| (exact ⟨_, rfl, rfl⟩))
theorem str_G {prog : Program} {w : World} {s : Shared} {f dx tp : Addr} {k : Str} {t4 : Tok} {n' : Nat} (X : (topk.heap_1 w.params).In s.heap) {C NS B1 ST : Addr} {nm : Str} {u1 u2 u3 u4 u5 u6 u7 : Tok} {ln : Int}
  (hC : s.heap.get? C = some (⟨.type "type", none, .cls { name := nm, bases := [.ref 37], mro := [.ref C, .ref 37, .type "Exception", .type "BaseException", .type "object"], ns := NS, qualname := nm }, #[some (.ref B1), none, some (.str nm u1), some (.str nm u2), some (.builtin "Exception.__new__"), some (.bool true)]⟩ : Obj))
  (hN : s.heap.get? NS = some (⟨.type "dict", none, .dict #[⟨PyData.keyHash w.params (Str.ofString "__module__"), .str (Str.ofString "__module__") u3, .str (Str.ofString "lendcore.errors") 195⟩, ⟨PyData.keyHash w.params (Str.ofString "__firstlineno__"), .str (Str.ofString "__firstlineno__") u4, .int ln u5⟩,
    ⟨PyData.keyHash w.params (Str.ofString "__static_attributes__"), .str (Str.ofString "__static_attributes__") u6, .ref ST⟩, ⟨PyData.keyHash w.params (Str.ofString "__doc__"), .str (Str.ofString "__doc__") u7, .none⟩] 2, #[]⟩ : Obj)) (hne : C ≠ 37) (hne2 : 39 < C) (hne3 : NS ≠ 36) 
  (hf : s.heap.get? f = some (⟨.ref C, some dx, .fields #[.ref tp, .none, .none, .none, .bool false, .none], #[]⟩ : Obj)) (htp : s.heap.get? tp = some (⟨.type "tuple", none, .seq #[.str k t4] n', #[]⟩ : Obj)) :
   wpAny (model prog w) AX (call (.type "str") [.ref f]) (SPost s k) (fun _ _ => False) s := by
  have h0 := K_0 X
  x_run
theorem str_37 {prog : Program} {w : World} {s : Shared} {f dx tp : Addr} {k : Str} {t4 : Tok} {n' : Nat} (X : (topk.heap_1 w.params).In s.heap) 
  (hf : s.heap.get? f = some (⟨.ref 37, some dx, .fields #[.ref tp, .none, .none, .none, .bool false, .none], #[]⟩ : Obj)) (htp : s.heap.get? tp = some (⟨.type "tuple", none, .seq #[.str k t4] n', #[]⟩ : Obj)) :
   wpAny (model prog w) AX (call (.type "str") [.ref f]) (SPost s k) (fun _ _ => False) s := by
  have h0 := K_0 X
  x_run
end
end Mine
end

-- E9
section
open PySem PySem.W PySem.W.X PyProof.Rows PySem.Calls PySem.Spec
set_option Elab.async false
set_option maxRecDepth 100000
set_option maxHeartbeats 0
namespace Mine
def B2Post (s : Shared) (k p : Str) (r : Value) (s' : Shared) : Prop :=
  ∃ (f dx tp : Addr) (h' : Heap) (tk' : Nat) (es : List DictEntry) (n : Nat) (news : List (Addr × Obj)) (t1 t2 t3 : Tok), r = .ref f ∧ s' = ⟨h', s.gens, s.drawn, tk', s.os⟩ ∧ Mem s.heap h' [] news ∧ (f, excObj 155 dx tp) ∈ news ∧ (dx, dictOf es n) ∈ news ∧
    getL "message" es = some (some (.str (k ++ sep ++ p) t1)) ∧ getL "kind" es = some (some (.str k t2)) ∧ getL "spot" es = some (some (.int 0 t3)) ∧ getL "rows" es = some (some (.ref 144))
theorem b2post_intro {s : Shared} {k p : Str} {f dx tp : Addr} {h' : Heap} {tk' : Nat} {es : List DictEntry} {n : Nat} {news : List (Addr × Obj)} {t1 t2 t3 : Tok} (D : Mem s.heap h' [] news)
  (h1 : (f, excObj 155 dx tp) ∈ news) (h2 : (dx, dictOf es n) ∈ news) (h4 : getL "message" es = some (some (.str (k ++ sep ++ p) t1))) (h5 : getL "kind" es = some (some (.str k t2)))
  (h6 : getL "spot" es = some (some (.int 0 t3))) (h7 : getL "rows" es = some (some (.ref 144))) : B2Post s k p (.ref f) { heap := h', gens := s.gens, drawn := s.drawn, toks := tk', os := s.os } :=
  ⟨f, dx, tp, h', tk', es, n, news, t1, t2, t3, rfl, rfl, D, h1, h2, h4, h5, h6, h7⟩
def BLPost (s : Shared) (k p : Str) (sp : Int) (tu tv : Addr) (r : Value) (s' : Shared) : Prop :=
  ∃ (f dx tp rt : Addr) (h' : Heap) (tk' : Nat) (es : List DictEntry) (n n' : Nat) (news : List (Addr × Obj)) (t1 t2 t3 : Tok), r = .ref f ∧ s' = ⟨h', s.gens, s.drawn, tk', s.os⟩ ∧ Mem s.heap h' [] news ∧ (f, excObj 155 dx tp) ∈ news ∧ (dx, dictOf es n) ∈ news ∧
    (rt, seqObj "tuple" #[.ref tu, .ref tv] n') ∈ news ∧ getL "message" es = some (some (.str (k ++ sep ++ p) t1)) ∧ getL "kind" es = some (some (.str k t2)) ∧ getL "spot" es = some (some (.int sp t3)) ∧ getL "rows" es = some (some (.ref rt))
theorem blpost_intro {s : Shared} {k p : Str} {sp : Int} {tu tv f dx tp rt : Addr} {h' : Heap} {tk' : Nat} {es : List DictEntry} {n n' : Nat} {news : List (Addr × Obj)} {t1 t2 t3 : Tok} (D : Mem s.heap h' [] news)
  (h1 : (f, excObj 155 dx tp) ∈ news) (h2 : (dx, dictOf es n) ∈ news) (h3 : (rt, seqObj "tuple" #[.ref tu, .ref tv] n') ∈ news) (h4 : getL "message" es = some (some (.str (k ++ sep ++ p) t1))) (h5 : getL "kind" es = some (some (.str k t2)))
  (h6 : getL "spot" es = some (some (.int sp t3))) (h7 : getL "rows" es = some (some (.ref rt))) : BLPost s k p sp tu tv (.ref f) { heap := h', gens := s.gens, drawn := s.drawn, toks := tk', os := s.os } :=
  ⟨f, dx, tp, rt, h', tk', es, n, n', news, t1, t2, t3, rfl, rfl, D, h1, h2, h3, h4, h5, h6, h7⟩
def MPost (s : Shared) (k p : Str) (r : Value) (s' : Shared) : Prop :=
  ∃ (f dx tp : Addr) (h' : Heap) (tk' : Nat) (es : List DictEntry) (n : Nat) (news : List (Addr × Obj)) (t1 t2 : Tok), r = .ref f ∧ s' = ⟨h', s.gens, s.drawn, tk', s.os⟩ ∧ Mem s.heap h' [] news ∧ (f, excObj 174 dx tp) ∈ news ∧ (dx, dictOf es n) ∈ news ∧
    getL "message" es = some (some (.str (k ++ sep ++ p) t1)) ∧ getL "kind" es = some (some (.str k t2))
theorem mpost_intro {s : Shared} {k p : Str} {f dx tp : Addr} {h' : Heap} {tk' : Nat} {es : List DictEntry} {n : Nat} {news : List (Addr × Obj)} {t1 t2 : Tok} (D : Mem s.heap h' [] news)
  (h1 : (f, excObj 174 dx tp) ∈ news) (h2 : (dx, dictOf es n) ∈ news) (h4 : getL "message" es = some (some (.str (k ++ sep ++ p) t1))) (h5 : getL "kind" es = some (some (.str k t2))) : MPost s k p (.ref f) { heap := h', gens := s.gens, drawn := s.drawn, toks := tk', os := s.os } :=
  ⟨f, dx, tp, h', tk', es, n, news, t1, t2, rfl, rfl, D, h1, h2, h4, h5⟩
section
local macro_rules | `(tactic| x_close) => `(tactic| (refine' b2post_intro (by assumption) ?a ?b ?d ?e ?g ?h; (case a => (repeat (first | exact List.Mem.head _ | refine List.Mem.tail _ ?_))); (case b => (repeat (first | exact List.Mem.head _ | refine List.Mem.tail _ ?_))); (case d => with_unfolding_all rfl); (case e => with_unfolding_all rfl); (case g => with_unfolding_all rfl); (case h => with_unfolding_all rfl)))
theorem borrow2_x0 {prog : Program} {w : World} {s : Shared} {t1 t2 t3 : Tok} {k p : Str} {sp : Int} {rl tu tv : Addr} {n : Nat} (X : (topk.heap_1 w.params).In s.heap)
  (hr : True)   (hk : 0 < k.length) (hk2 : k.length ≤ 100) (hp : 0 < p.length) (hp2 : p.length ≤ 100) (e1 : (k ++ (Str.mk (Array.mk [58, 32]))).length = k.length + 2) (e2 : (k ++ (Str.mk (Array.mk [58, 32])) ++ p).length = k.length + 2 + p.length)  :
   wpAny (model prog w) AX (call (.ref 155) [.str k t1, .str p t2]) (B2Post s k p) (fun _ _ => False) s := by
  have h0 := K_0 X
  x_run
end
section
local macro_rules | `(tactic| x_close) => `(tactic| (refine' blpost_intro (by assumption) ?a ?b ?c ?d ?e ?g ?h; (case a => (repeat (first | exact List.Mem.head _ | refine List.Mem.tail _ ?_))); (case b => (repeat (first | exact List.Mem.head _ | refine List.Mem.tail _ ?_))); (case c => (repeat (first | exact List.Mem.head _ | refine List.Mem.tail _ ?_))); (case d => with_unfolding_all rfl); (case e => with_unfolding_all rfl); (case g => with_unfolding_all rfl); (case h => with_unfolding_all rfl)))
theorem borrowL_x0 {prog : Program} {w : World} {s : Shared} {t1 t2 t3 : Tok} {k p : Str} {sp : Int} {rl tu tv : Addr} {n : Nat} (X : (topk.heap_1 w.params).In s.heap)
  (hr : s.heap.get? rl = some (⟨.type "list", none, .seq #[.ref tu, .ref tv] n, #[]⟩ : Obj)) (hk : 0 < k.length) (hk2 : k.length ≤ 100) (hp : 0 < p.length) (hp2 : p.length ≤ 100) (e1 : (k ++ (Str.mk (Array.mk [58, 32]))).length = k.length + 2) (e2 : (k ++ (Str.mk (Array.mk [58, 32])) ++ p).length = k.length + 2 + p.length)  :
   wpAny (model prog w) AX (call (.ref 155) [.str k t1, .str p t2, .int sp t3, .ref rl]) (BLPost s k p sp tu tv) (fun _ _ => False) s := by
  have h0 := K_0 X
  x_run
end
section
local macro_rules | `(tactic| x_close) => `(tactic| (refine' mpost_intro (by assumption) ?a ?b ?d ?e; (case a => (repeat (first | exact List.Mem.head _ | refine List.Mem.tail _ ?_))); (case b => (repeat (first | exact List.Mem.head _ | refine List.Mem.tail _ ?_))); (case d => with_unfolding_all rfl); (case e => with_unfolding_all rfl)))
theorem mach_x0 {prog : Program} {w : World} {s : Shared} {t1 t2 t3 : Tok} {k p : Str} {sp : Int} {rl tu tv : Addr} {n : Nat} (X : (topk.heap_1 w.params).In s.heap)
  (hr : True)   (hk : 0 < k.length) (hk2 : k.length ≤ 100) (hp : 0 < p.length) (hp2 : p.length ≤ 100) (e1 : (k ++ (Str.mk (Array.mk [58, 32]))).length = k.length + 2) (e2 : (k ++ (Str.mk (Array.mk [58, 32])) ++ p).length = k.length + 2 + p.length)  :
   wpAny (model prog w) AX (call (.ref 174) [.str k t1, .str p t2]) (MPost s k p) (fun _ _ => False) s := by
  have h0 := K_0 X
  x_run
end
theorem sep_len {k p : Str} : (k ++ (Str.mk (Array.mk [58, 32]))).length = k.length + 2 ∧ (k ++ (Str.mk (Array.mk [58, 32])) ++ p).length = k.length + 2 + p.length := by
  have e1 : (k ++ (Str.mk (Array.mk [58, 32]))).length = k.length + 2 := by rw [Str.length_append]; rfl
  exact ⟨e1, by rw [Str.length_append, e1]⟩
end Mine
end

-- E4
section
open PySem PySem.W PySem.W.X PyProof.Rows PySem.Calls PySem.Spec
set_option Elab.async false
set_option maxRecDepth 100000
set_option maxHeartbeats 400000
namespace Mine
section
variable {prog : Program} {w : World} {A : Around} {E : Value → Shared → Prop} {s : Shared} {K : Frag} {x C K2 : Addr} {ox : Obj} {od : Option Obj} {name : Str} {expr : Bool}
open PySem.F in
theorem class_exc {Q : Option Value → Shared → Prop} (X : K.In s.heap) (I : W.InstAt s.heap x ox C od) (hga : findIn K (.ref C) "__getattribute__" = some (some (.builtin "BaseException.__getattribute__")))
    (hk : findIn K (.ref C) "__getattr__" = some none) (hsub : subIn K (.ref C) (.type "BaseException") = some true)
    (hf : findObj K C od "__class__" = some (.bind (.builtin "getset_descriptor.__get__") (.builtin "object.__class__"))) (hso : subIn K (.ref C) (.type "object") = some true) (h : Q (some (.ref C)) { s with toks := s.toks + 1 }) : wpAny (model prog w) A (getAttr? (.ref x) "__class__") Q E s := by
  obtain ⟨hh', g, d, t, os⟩ := s
  have L0 := I.type (M := model prog w)
  have L1 := looks_findIn (M := model prog w) X hga
  have L2 := looks_findIn (M := model prog w) X hk
  have L3 : Looks (model prog w) hh' (isInstance (.ref x) (.type "BaseException")) true := L0.andThen (looks_subIn X hsub)
  have L5 : Looks (model prog w) hh' (isInstance (.ref x) (.type "object")) true := L0.andThen (looks_subIn X hso)
  have L4 := looks_find (M := model prog w) X I hf
  have hb : ∀ self, bindSpecial (.builtin "BaseException.__getattribute__") self = pure (.builtin "BaseException.__getattribute__", [self]) := excAttr_ValueError.ga.bind
  unfold getAttr? getAttrBy?
  refine wpAny_bind (wpAny_mkText (wpAny_bind (wpAny_attempt ?_)))
  unfold getAttrBy
  refine wpAny_holding (wpAny_bind (L0.at (wpAny_bind (L1.at ?_))))
  show wpAny _ _ (getAttrByItsOwn _ _ _ _ _ _) _ _ _
  unfold getAttrByItsOwn
  refine wpAny_bind ?_
  show wpAny _ _ (typeLookup (.ref C) "__getattr__") _ _ _
  refine L2.at ?_
  refine wpAny_bind (wpAny_attempt (wpAny_holding ?_))
  show wpAny _ _ (boundAndCalled (.builtin "BaseException.__getattribute__") (.ref x) (.str "__class__" t)) _ _ _
  unfold boundAndCalled
  rw [hb]
  refine wpAny_bind (wpAny_pure ?_)
  refine wpAny_call (codeAny_call_builtin excAttr_ValueError.ga.plain entry_bexc_ga ?_)
  refine @check_slot (model prog w) _ _ _ "BaseException.__getattribute__" "BaseException" "__getattribute__" (.ref x) [.str "__class__" t] [] _ (by decide +kernel) (by decide +kernel) L3 (args_bexc_ga (.ref x) (.str "__class__" t)) ?_
  unfold Builtin.«object.__getattribute__»
  refine wpAny_bind (m := slotArgs "__getattribute__" 1 _) (wpAny_pure ?_)
  refine wpAny_bind (m := Builtin.ObjectAttr.attrName _) (wpAny_pure ?_)
  refine wpAny_bind (L0.at ?_)
  refine wpAny_bind (L4.at ?_)
  refine wpAny_bind (m := holding [Value.builtin "object.__class__"] (call (.builtin "getset_descriptor.__get__") [.builtin "object.__class__", .ref x, .ref C])) (wpAny_holding (wpAny_call ?_))
  refine codeAny_call_builtin slot_gs_get.plain entry_gs_get ?_
  have hT5 : (⟨hh', g, d, t + 1, os⟩ : Shared).TypeIs (.builtin "object.__class__") "getset_descriptor" := typeOf_object_class
  refine slot_gs_get.check _ _ _ _ _ _ _ _ hT5 (args_gs_get _ _ _) ?_
  show wpAny _ _ (Builtin.Getset_descriptor.descrGet _) _ _ _
  unfold Builtin.Getset_descriptor.descrGet
  refine wpAny_bind (m := Builtin.Getset_descriptor.descrGetArgs _) (wpAny_pure ?_)
  show wpAny _ _ (Builtin.Getset_descriptor.descrGetter (.builtin "object.__class__") (some (.ref x))) _ _ _
  unfold Builtin.Getset_descriptor.descrGetter
  refine wpAny_bind ?_
  unfold Builtin.Getset_descriptor.descrCheckInstance
  refine wpAny_bind (m := Builtin.Getset_descriptor.descrNameAndClass _) (wpAny_pure ?_)
  dsimp only
  rw [owner_object_class]
  refine wpAny_bind (L5.at ?_)
  simp only [Bool.not_true, Bool.false_eq_true, if_false]
  refine wpAny_pure ?_
  refine wpAny_pure ?_
  refine ⟨Code.quiet_builtin _ (by decide +kernel), codeAny_builtin entry_object_class ?_⟩
  unfold Builtin.«object.__class__»
  show wpAny _ _ (do ret (← shownTypeOf (.ref x))) _ _ _
  refine wpAny_bind ?_
  unfold shownTypeOf
  refine wpAny_bind (L0.at ?_)
  dsimp only
  refine wpAny_ite_split (fun hab => absurd hab (by simp)) (fun _ => wpAny_pure ?_)
  refine wpAny_pure (wpAny_pure ?_)
  show wpAny _ A (handedOut (.ref C)) _ _ _
  rw [handedOut_of (by rfl)]
  exact wpAny_pure (wpAny_pure h)
structure ExcMore (K : Frag) (C : Addr) : Prop where
  ga : findIn K (.ref C) "__getattribute__" = some (some (.builtin "BaseException.__getattribute__"))
  gh : findIn K (.ref C) "__getattr__" = some none
  sub : subIn K (.ref C) (.type "BaseException") = some true
  cl : findObj K C none "__class__" = some (.bind (.builtin "getset_descriptor.__get__") (.builtin "object.__class__"))
  ob : subIn K (.ref C) (.type "object") = some true
theorem isi_no_nested {dep : Int} {tk : Tok} {Q : PySem.Fin → Shared → Prop} {cC cK : ClassData} (X : K.In s.heap) (I : W.InstAt s.heap x ox C od) (hga : findIn K (.ref C) "__getattribute__" = some (some (.builtin "BaseException.__getattribute__")))
    (hk : findIn K (.ref C) "__getattr__" = some none) (hsub : subIn K (.ref C) (.type "BaseException") = some true)
    (hf : findObj K C od "__class__" = some (.bind (.builtin "getset_descriptor.__get__") (.builtin "object.__class__"))) (hso : subIn K (.ref C) (.type "object") = some true)
    (hne : C ≠ K2) (hKt : typeIn K (.ref K2) = some (.type "type")) (hKi : instIn K (.ref K2) (.type "type") = some true) (hCi : instIn K (.ref C) (.type "type") = some true) (hno : subIn K (.ref C) (.ref K2) = some false) (hcl : clsIn K K2 = some cK) (hcl2 : clsIn K C = some cC)
    (h : Q (.done (.ret (.bool false))) { s with toks := s.toks + 1 }) : wpAny (model prog w) A (Builtin.«isinstance.nested» ⟨[.ref x, .ref K2, .int dep tk], []⟩) Q E s := by
  obtain ⟨hh, g, d, tt, os⟩ := s
  have L0 := I.type (M := model prog w)
  have L1 := looks_typeIn (M := model prog w) X hKt
  have L2 := looks_instIn (M := model prog w) X hKi
  have L2' := looks_instIn (M := model prog w) X hCi
  have L3 : Looks (model prog w) hh (isInstance (.ref x) (.ref K2)) false := L0.andThen (looks_subIn X hno)
  have L4 : Looks (model prog w) hh (isSubtype (.ref C) (.ref K2)) false := looks_subIn X hno
  have q : (Value.ref C == Value.ref K2) = false := by simpa using hne
  unfold Builtin.«isinstance.nested»
  refine wpAny_bind (L0.at ?_)
  rw [if_neg (by rw [q]; exact Bool.false_ne_true)]
  refine wpAny_bind (L1.at ?_)
  rw [if_pos (by decide)]
  k_delta "plainIsInstance"
  unfold isType
  repeat lk
  unfold clsIn at hcl hcl2
  split at hcl
  · rename_i ho
    refine nd_load (X _ _ ho) (nd_pure (wpAny_pure ?_))
    simp only [Bool.not_true, Bool.false_eq_true, if_false]
    refine wpAny_bind (L3.at ?_)
    simp only [Bool.false_eq_true, if_false]
    refine wpAny_bind (class_exc (prog := prog) (w := w) X I hga hk hsub hf hso ?_)
    dsimp only
    split at hcl2
    · rename_i hoC
      repeat lk
      refine nd_load (X _ _ hoC) (nd_pure (wpAny_pure ?_))
      simp only [Bool.not_true, Bool.false_eq_true, if_false]
      refine wpAny_bind (wpAny_rule (L4.at ?_))
      exact wpAny_pure h
    · cases hcl2
  · cases hcl
theorem isi_no {Q : Value → Shared → Prop} {cC cK : ClassData} (X : K.In s.heap) (I : W.InstAt s.heap x ox C od) (hga : findIn K (.ref C) "__getattribute__" = some (some (.builtin "BaseException.__getattribute__")))
    (hk : findIn K (.ref C) "__getattr__" = some none) (hsub : subIn K (.ref C) (.type "BaseException") = some true)
    (hf : findObj K C od "__class__" = some (.bind (.builtin "getset_descriptor.__get__") (.builtin "object.__class__"))) (hso : subIn K (.ref C) (.type "object") = some true)
    (hne : C ≠ K2) (hKt : typeIn K (.ref K2) = some (.type "type")) (hKi : instIn K (.ref K2) (.type "type") = some true) (hCi : instIn K (.ref C) (.type "type") = some true) (hno : subIn K (.ref C) (.ref K2) = some false) (hcl : clsIn K K2 = some cK) (hcl2 : clsIn K C = some cC)
    (h : Q (.bool false) { s with toks := s.toks + 1 }) : wpAny (model prog w) A (call (.builtin "isinstance") [.ref x, .ref K2]) Q E s :=
  call_isinstance (S := fun _ R s => (K.In s.heap ∧ W.InstAt s.heap x ox C od) ∧ R (.ok (.ret (.bool false))) { s with toks := s.toks + 1 }) (fun _ _ _ _ _ hs => isinstance_outer (isi_no_nested hs.1.1 hs.1.2 hga hk hsub hf hso hne hKt hKi hCi hno hcl hcl2 hs.2) (by intro e; cases e)) ⟨⟨X, I⟩, h⟩
end
end Mine
end

-- E5
section
open PySem PySem.W PySem.W.X PyProof.Rows PySem.Calls PySem.Spec
set_option Elab.async false
set_option maxRecDepth 100000
set_option maxHeartbeats 4000000
namespace Mine
def nine : List Addr := [155, 50, 62, 74, 86, 98, 110, 122, 134]
structure EC (P : Params) (C : Addr) : Prop where
  exc : ExcCls P C
  cl : ∀ od, findObj (topk.heap_1 P) C od "__class__" = some (.bind (.builtin "getset_descriptor.__get__") (.builtin "object.__class__"))
  ob : subIn (topk.heap_1 P) (.ref C) (.type "object") = some true
  inst : instIn (topk.heap_1 P) (.ref C) (.type "type") = some true
  cls : ∃ cC, clsIn (topk.heap_1 P) C = some cC
  no : ∀ K2 ∈ nine, C ≠ K2 → subIn (topk.heap_1 P) (.ref C) (.ref K2) = some false
  lend : isIn (topk.heap_1 P) (.ref C) 37 = true
theorem find_class {K : Frag} {C : Addr} {cd : ClassData} (e1 : clsIn K C = some cd) (e2 : findIn K (.ref C) "__class__" = some (some (.builtin "object.__class__"))) (e3 : specialIn K (.builtin "object.__class__") "__get__" = some (some (.builtin "getset_descriptor.__get__")))
    (e4 : takesIn K (.builtin "object.__class__") = some true) (od : Option Obj) : findObj K C od "__class__" = some (.bind (.builtin "getset_descriptor.__get__") (.builtin "object.__class__")) := by
  unfold findObj
  rw [e1, Option.bind_some, e2, Option.bind_some]
  dsimp only
  rw [e3, Option.bind_some]
  dsimp only
  rw [e4, Option.bind_some]
def classes12 : List Addr := [50, 62, 74, 86, 98, 110, 122, 134, 186, 198, 37, 174]
theorem ec (w : World) {C : Addr} (hC : C ∈ classes12) : EC w.params C := by
  refine (?_ : ∀ C ∈ classes12, EC w.params C) C hC
  unfold classes12
  repeat (refine List.forall_mem_cons.mpr ⟨?_, ?_⟩; (refine ⟨⟨by k_is, by k_is, by k_is, by k_is, by k_is, by k_is, by k_is, by k_is⟩, find_class (by k_is) (by k_is) (by k_is) (by k_is), by k_is, by k_is, ⟨_, by k_is⟩, ?_, by k_is⟩; (unfold nine; (repeat (refine List.forall_mem_cons.mpr ⟨(by first | (intro h; exact absurd rfl h) | (intro _; k_is)), ?_⟩)); exact fun _ h => absurd h List.not_mem_nil)))
  exact fun _ h => absurd h List.not_mem_nil
theorem nine_facts (w : World) {K2 : Addr} (hK : K2 ∈ nine) : typeIn (topk.heap_1 w.params) (.ref K2) = some (.type "type") ∧ instIn (topk.heap_1 w.params) (.ref K2) (.type "type") = some true ∧ ∃ cK, clsIn (topk.heap_1 w.params) K2 = some cK := by
  refine (?_ : ∀ K2 ∈ nine, typeIn (topk.heap_1 w.params) (.ref K2) = some (.type "type") ∧ instIn (topk.heap_1 w.params) (.ref K2) (.type "type") = some true ∧ ∃ cK, clsIn (topk.heap_1 w.params) K2 = some cK) K2 hK
  unfold nine
  repeat (refine List.forall_mem_cons.mpr ⟨⟨by k_is, by k_is, _, by k_is⟩, ?_⟩)
  exact fun _ h => absurd h List.not_mem_nil
def tbl : List (Addr × Str) := [(50, "words"), (62, "grammar"), (74, "names"), (86, "visibility"), (98, "types"), (110, "traits"), (122, "coherence"), (134, "patterns")]
def tK (q : Nat) : Addr := (tbl.getD q (0, "")).1
def tW (q : Nat) : Str := (tbl.getD q (0, "")).2
def wordOf (C : Addr) : Str := if C = 50 then "words" else if C = 62 then "grammar" else if C = 74 then "names" else if C = 86 then "visibility" else if C = 98 then "types" else if C = 110 then "traits" else if C = 122 then "coherence" else if C = 134 then "patterns" else "other"
theorem tK_nine : ∀ q, q < 8 → tK q ∈ nine := by decide
theorem wordOf_t : ∀ q, q < 8 → wordOf (tK q) = tW q := by decide
theorem wordOf_no {C : Addr} (h : ∀ q, q < 8 → C ≠ tK q) : wordOf C = "other" := by
  unfold wordOf
  rw [if_neg (show C ≠ 50 from h 0 (by decide)), if_neg (show C ≠ 62 from h 1 (by decide)), if_neg (show C ≠ 74 from h 2 (by decide)), if_neg (show C ≠ 86 from h 3 (by decide)), if_neg (show C ≠ 98 from h 4 (by decide)), if_neg (show C ≠ 110 from h 5 (by decide)), if_neg (show C ≠ 122 from h 6 (by decide)), if_neg (show C ≠ 134 from h 7 (by decide))]
section
variable {w : World} {mean : ExcName → Option Value} {mg mb : Str → Option Value} {A : Around} {s : Shared} {h₀ : Heap} {L : Addr} {m : Str → Option Value} {Q E : Value → Shared → Prop} {C K2 f dx tp : Addr} {es : List DictEntry} {n : Nat} {news : List (Addr × Obj)}
theorem isi_dec (H : EC w.params C) (hK : K2 ∈ nine) (X : (topk.heap_1 w.params).In h₀) (F : Fr h₀ L s.heap m) (N : News h₀ L s.heap news) (mf : (f, excObj C dx tp) ∈ news) (md : (dx, dictOf es n) ∈ news)
    (h1 : C = K2 → Q (.bool true) s) (h2 : C ≠ K2 → Q (.bool false) { s with toks := s.toks + 1 }) : wpAny (model PR w) A (call (.builtin "isinstance") [.ref f, .ref K2]) Q E s := by
  have I := inst_exc N mf md
  obtain ⟨cC, hcC⟩ := H.cls
  obtain ⟨hKt, hKi, cK, hcl⟩ := nine_facts w hK
  by_cases e : C = K2
  · subst e
    exact isi_call (X.keeps F.keep) (fun M => I.type) (by unfold isIn; simp) (by intro e; cases e) (h1 rfl)
  · exact isi_no (X.keeps F.keep) I H.exc.ga H.exc.gh H.exc.sub (H.cl _) H.ob e hKt hKi H.inst (H.no _ hK e) hcl hcC (h2 e)
end
section
local macro_rules | `(tactic| walk_at "exec For") => `(tactic| (refine stop ?_))
set_option hygiene false in
local macro_rules | `(tactic| walk_at "eval Name") => `(tactic| ((with_reducible show wpAny _ _ (eval (Expr.Name (Str.ofString "fault") _) (envOf _ _ _ _ _)) _ _ _); (rename Fr _ _ _ _ => lF9); k_dflt (refine nameX_L lF9 (by first | exact m1 | ((repeat (refine Eq.trans (if_neg (by decide)) ?_)); exact m1)) ?_)))
set_option hygiene false in
local macro_rules | `(tactic| walk_at "call builtin:isinstance") => `(tactic| ((rename Fr _ _ _ _ => lF9); (rename News _ _ _ _ => lN9); (k_dflt refine' isi_dec H ?x5 ?x1 lF9 lN9 ?x3 ?x4 (fun hc => ?_) (fun hc => ?_)); (case x1 => assumption); (case x3 => (repeat (first | exact mf | exact mf9 | refine List.Mem.tail _ ?_))); (case x4 => (repeat (first | exact md | exact md9 | refine List.Mem.tail _ ?_))); (case x5 => first | exact hq9 | decide); (try (exact absurd hc hC));(try dsimp only)))
variable {w : World} {mean : ExcName → Option Value} {mg mb : Str → Option Value}
theorem word_spec {dp un : Nat} {gd : Option (List Code)} {cn : Str} {cs : Scope} {L a : Addr} {ccd : Value} {cl : List (Str × Addr)} {outer : List Env} {A₀ : Around} {base h₀ : Heap} {m : Str → Option Value} {s : Shared} {Q E : Value → Shared → Prop}
  {C f dx tp : Addr} {es : List DictEntry} {n : Nat} {rest : List (Addr × Obj)}
  (B : Below A₀ base outer h₀) (F : Fr h₀ L s.heap m) (X : (topk.heap_1 w.params).In h₀) (T : Top VW LZ mean mg mb h₀) (hk : cs.kind = .function) (hd : dp + 20 < recursionLimit) (hu : un + 100 < cLine)
  (N : News h₀ L s.heap rest) (mf : (f, excObj C dx tp) ∈ rest) (md : (dx, dictOf es n) ∈ rest) (H : EC w.params C) (hC : C ≠ 155)
  (ret : ∀ (k : Str) (t : Tok) (h' : Heap) (tk' : Nat), k = wordOf C → Fr h₀ L h' m → News h₀ L h' rest → Q (.str k t) { s with heap := h', toks := tk' }) :
  wpAny (model PR w) (ktrTop dp un gd cn cs L a ccd cl outer) (call (.ref 207) [.ref f]) Q E s := by
  refine wpAny_call ?_
  k_dflt (first | ktr_enter | (refine' code_defC ?k1 ?k2 ?k3 ?k4 ?k5 ?kA ?kF ?kK ?k6 ?k7 ?k8 ?k9 ?kB ?kD ?_ ?c2 ?c3 ?c4; (case kA => exact rfl); (case kF => exact rfl); (case kK => assumption); (case k1 => k_asm); (case k2 => k_asm); (case k3 => k_asm); (case k4 => k_asm); (case k5 => k_asm); (case k6 => k_is); (case k7 => k_is); (case k8 => ktr_room); (case k9 => first | exact BindsTo.of_eq rfl | exact binds_K (by k_in) rfl (by k_is) rfl rfl rfl | fail "k_enter: no rule for these arguments"); (case kB => exact rfl); (case kD => decide +kernel); (case c2 => exact rfl); (case c3 => exact rfl); (case c4 => exact rfl); k_whole; intro g' L' h' tk' cells' FG' F' N' Y' B' X' T' l1; (try k_lt l1); k_cells Y'; (try simp only [List.cons_append, List.nil_append] at N'); (try dsimp only); (try k_lift B'); (try k_fold)))
  k_steps
  delta Stop
  (rename Fr _ _ _ _ => F9)
  (rename News _ _ _ _ => N9)
  k_dflt (refine For_turns F9 ?_)
  k_steps
  rename_i A1 _ _ A2 _ _ A3 _ _ A4 _ _ la _ _ _ _ A5 _ _ A6 _ _ A7 _ _ A8 _ _ lb _ _ lc _ _ _
  obtain ⟨ds, hds⟩ : ∃ d, d = [A1, A2, A3, A4, A5, A6, A7, A8] := ⟨_, rfl⟩
  have hdl : ds.length = 8 := by rw [hds]; rfl
  obtain ⟨b9, N8, hsub, hlc, hrow⟩ : ∃ b9, News _ _ _ b9 ∧ (∀ p ∈ rest, p ∈ b9) ∧ (lc, listOf (ds.map Value.ref).toArray 0) ∈ b9 ∧ ∀ q, q < 8 → ∃ t n, (ds.getD q 0, seqObj "tuple" #[.ref (tK q), .str (tW q) t] n) ∈ b9 := by
    refine ⟨_, N9, fun p hp => ?_, ?_, fun q hq => ?_⟩
    · repeat (first | exact hp | refine List.Mem.tail _ ?_)
    · rw [hds]; exact List.Mem.head _
    · rw [hds]
      revert q
      exact (ltS (n := 7) (ltS (n := 6) (ltS (n := 5) (ltS (n := 4) (ltS (n := 3) (ltS (n := 2) (ltS (n := 1) (ltS (n := 0) lt0 ⟨_, _, (by (repeat (first | exact List.Mem.head _ | refine List.Mem.tail _ ?_)))⟩) ⟨_, _, (by (repeat (first | exact List.Mem.head _ | refine List.Mem.tail _ ?_)))⟩) ⟨_, _, (by (repeat (first | exact List.Mem.head _ | refine List.Mem.tail _ ?_)))⟩) ⟨_, _, (by (repeat (first | exact List.Mem.head _ | refine List.Mem.tail _ ?_)))⟩) ⟨_, _, (by (repeat (first | exact List.Mem.head _ | refine List.Mem.tail _ ?_)))⟩) ⟨_, _, (by (repeat (first | exact List.Mem.head _ | refine List.Mem.tail _ ?_)))⟩) ⟨_, _, (by (repeat (first | exact List.Mem.head _ | refine List.Mem.tail _ ?_)))⟩) ⟨_, _, (by (repeat (first | exact List.Mem.head _ | refine List.Mem.tail _ ?_)))⟩)
  have mf9 := hsub _ mf
  have md9 := hsub _ md
  refine iter_listTurns (lo := listOf (ds.map Value.ref).toArray 0) (vs := ds.map Value.ref) (by rfl) F9 N8 hlc rfl rfl ?_
  intro I lI
  clear N9
  refine itemsRest_of (fun its mm nw => ∃ q, q ≤ 8 ∧ its = ((ds.map Value.ref).drop q).map Itm.val ∧ nw = b9 ∧ mm (Str.ofString "fault") = some (.ref f) ∧ ∀ i, i < q → C ≠ tK i) ?step ?fin _ _ _ ⟨0, Nat.zero_le _, rfl, rfl, rfl, fun i h => absurd h (Nat.not_lt_zero _)⟩
  case fin =>
    rintro mm nw ⟨q, hq, e1, rfl, m1, hno⟩ h' tk' F N
    have hqe : q = 8 := by
      have := congrArg List.length e1
      simp at this; omega
    subst hqe
    k_steps
    exact ret _ _ _ _ (wordOf_no hno).symm (by assumption) (newsSub (by assumption) hsub)
  case step =>
    rintro v0 rr mm nw ⟨q, hq, e1, rfl, m1, hno⟩ v h' tk' hv F oI hoI N
    have hq8 : q < 8 := by
      rcases Nat.lt_or_ge q 8 with h | h
      · exact h
      · rw [List.drop_eq_nil_of_le (by simp; omega)] at e1; cases e1
    have hql : q < (ds.map Value.ref).length := by simp; omega
    rw [List.drop_eq_getElem_cons hql, List.map_cons] at e1
    injection e1 with e1 e1'
    subst e1
    have hv7 : v = .ref (ds.getD q 0) := by
      have h1 : v = (ds.map Value.ref)[q] := hv
      rw [h1, List.getElem_map, List.getD_eq_getElem?_getD, List.getElem?_eq_getElem (by omega)]; rfl
    subst hv7
    obtain ⟨t, nt, hrow1⟩ := hrow q hq8
    have hq9 := tK_nine q hq8
    simp only [List.cons_append, List.nil_append] at N
    k_dflt (refine unpackN_ F N (News.isTup N (.tail _ hrow1)) rfl rfl rfl ?_)
    intro h2 F N
    k_steps
    · rename_i hc kF kN _ _
      exact ret _ _ _ _ (by rw [hc]; exact (wordOf_t q hq8).symm) kF (newsSub kN fun p hp => .tail _ (hsub p hp))
    · rename_i hc
      refine ⟨_, _, _, nw, rfl, by assumption, by assumption, ?_, ⟨hlc, trivial⟩, q + 1, hq8, e1', rfl, ?_, ?_⟩
      · intro r hr p hp
        rw [List.mem_singleton.mp hp]
        exact Nat.ne_of_lt (lI r hr)
      · exact (if_neg (by decide)).trans ((if_neg (by decide)).trans m1)
      · intro i hi
        rcases Nat.lt_succ_iff_lt_or_eq.mp hi with h | rfl
        · exact hno i h
        · exact hc
end
end Mine
end

-- E10
section
open PySem PySem.W PySem.W.X PyProof.Rows PySem.Calls PySem.Spec
set_option Elab.async false
set_option maxRecDepth 100000
set_option maxHeartbeats 1000000
namespace Mine
section
variable {w : World} {s : Shared} {h₀ : Heap} {L : Addr} {m : Str → Option Value} {news : List (Addr × Obj)} {Q E : Value → Shared → Prop}
theorem mem_grow {h' : Heap} {nw : List (Addr × Obj)} (F : Fr h₀ L s.heap m) (N : News h₀ L s.heap news) (D : Mem s.heap h' [] nw) : Fr h₀ L h' m ∧ (∀ b o, s.heap.get? b = some o → h'.get? b = some o) ∧ (∀ sel : List (Addr × Obj), (∀ p ∈ sel, p ∈ nw) → News h₀ L h' (sel ++ news)) ∧ ∀ q ∈ news, ∀ p ∈ nw, q.1 ≠ p.1 := by
  have kp : ∀ b o, s.heap.get? b = some o → h'.get? b = some o := fun b o e => D.keep b o e (by rw [show away [] b = true from rfl, Bool.or_true])
  refine ⟨F.keeps kp, kp, fun sel hs p hp => ?_, fun q hq p hp e => ?_⟩
  · rcases List.mem_append.mp hp with hp | hp
    · have hp := hs p hp
      refine ⟨(D.nw _ hp).1, fun e => ?_, ?_⟩
      · obtain ⟨oL, _, _, ho, _⟩ := F.ns
        have := (D.nw _ hp).2
        rw [e, ho] at this; cases this
      · cases e : h₀.get? p.1 with
        | none => rfl
        | some o' => have := (D.nw _ hp).2; rw [F.keep _ _ e] at this; cases this
    · exact ⟨kp _ _ (N p hp).1, (N p hp).2⟩
  · have := (D.nw _ hp).2
    have h2 := (N _ hq).1
    rw [e] at h2; rw [h2] at this; cases this
def eleven : List Addr := [50, 62, 74, 86, 98, 110, 122, 134, 186, 198, 37]
theorem shape {P : Addr → Prop} (X : (topk.heap_1 w.params).In s.heap) (h37 : P 37) (hG : ∀ {C NS B1 ST : Addr} {nm : Str} {u1 u2 u3 u4 u5 u6 u7 : Tok} {ln : Int}, s.heap.get? C = some (⟨.type "type", none, .cls { name := nm, bases := [.ref 37], mro := [.ref C, .ref 37, .type "Exception", .type "BaseException", .type "object"], ns := NS, qualname := nm }, #[some (.ref B1), none, some (.str nm u1), some (.str nm u2), some (.builtin "Exception.__new__"), some (.bool true)]⟩ : Obj) → s.heap.get? NS = some (⟨.type "dict", none, .dict #[⟨PyData.keyHash w.params (Str.ofString "__module__"), .str (Str.ofString "__module__") u3, .str (Str.ofString "lendcore.errors") 195⟩, ⟨PyData.keyHash w.params (Str.ofString "__firstlineno__"), .str (Str.ofString "__firstlineno__") u4, .int ln u5⟩,
    ⟨PyData.keyHash w.params (Str.ofString "__static_attributes__"), .str (Str.ofString "__static_attributes__") u6, .ref ST⟩, ⟨PyData.keyHash w.params (Str.ofString "__doc__"), .str (Str.ofString "__doc__") u7, .none⟩] 2, #[]⟩ : Obj) → C ≠ 37 → 39 < C → NS ≠ 36 → P C) : ∀ C ∈ eleven, P C := by
  unfold eleven
  refine List.forall_mem_cons.mpr ⟨hG (X 50 _ rfl) (X 49 _ rfl) (by decide) (by decide) (by decide), ?_⟩
  refine List.forall_mem_cons.mpr ⟨hG (X 62 _ rfl) (X 61 _ rfl) (by decide) (by decide) (by decide), ?_⟩
  refine List.forall_mem_cons.mpr ⟨hG (X 74 _ rfl) (X 73 _ rfl) (by decide) (by decide) (by decide), ?_⟩
  refine List.forall_mem_cons.mpr ⟨hG (X 86 _ rfl) (X 85 _ rfl) (by decide) (by decide) (by decide), ?_⟩
  refine List.forall_mem_cons.mpr ⟨hG (X 98 _ rfl) (X 97 _ rfl) (by decide) (by decide) (by decide), ?_⟩
  refine List.forall_mem_cons.mpr ⟨hG (X 110 _ rfl) (X 109 _ rfl) (by decide) (by decide) (by decide), ?_⟩
  refine List.forall_mem_cons.mpr ⟨hG (X 122 _ rfl) (X 121 _ rfl) (by decide) (by decide) (by decide), ?_⟩
  refine List.forall_mem_cons.mpr ⟨hG (X 134 _ rfl) (X 133 _ rfl) (by decide) (by decide) (by decide), ?_⟩
  refine List.forall_mem_cons.mpr ⟨hG (X 186 _ rfl) (X 185 _ rfl) (by decide) (by decide) (by decide), ?_⟩
  refine List.forall_mem_cons.mpr ⟨hG (X 198 _ rfl) (X 197 _ rfl) (by decide) (by decide) (by decide), ?_⟩
  exact List.forall_mem_cons.mpr ⟨h37, fun _ h => absurd h List.not_mem_nil⟩
theorem lend2_all {t1 t3 : Tok} {k : Str} {sp : Int} {C : Addr} (hC : C ∈ eleven) (X : (topk.heap_1 w.params).In s.heap) : wpAny (model PR w) AX (call (.ref C) [.str k t1, .int sp t3]) (LPost C s k sp) (fun _ _ => False) s :=
  shape (P := fun C => wpAny (model PR w) AX (call (.ref C) [.str k t1, .int sp t3]) (LPost C s k sp) (fun _ _ => False) s) X (lend2_37 (C := 0) (NS := 0) (B1 := 0) (ST := 0) (nm := "") (u1 := 0) (u2 := 0) (u3 := 0) (u4 := 0) (u5 := 0) (u6 := 0) (u7 := 0) (ln := 0) X trivial trivial trivial trivial trivial) (lend2_G X) C hC
theorem lend1_all {t1 : Tok} {k : Str} {C : Addr} (hC : C ∈ eleven) (X : (topk.heap_1 w.params).In s.heap) : wpAny (model PR w) AX (call (.ref C) [.str k t1]) (LPost C s k 0) (fun _ _ => False) s :=
  shape (P := fun C => wpAny (model PR w) AX (call (.ref C) [.str k t1]) (LPost C s k 0) (fun _ _ => False) s) X (lend1_37 (t3 := 0) (sp := 0) (C := 0) (NS := 0) (B1 := 0) (ST := 0) (nm := "") (u1 := 0) (u2 := 0) (u3 := 0) (u4 := 0) (u5 := 0) (u6 := 0) (u7 := 0) (ln := 0) X trivial trivial trivial trivial trivial) (lend1_G (t3 := 0) (sp := 0) X) C hC
theorem str_all {f dx tp : Addr} {k : Str} {t4 : Tok} {n' : Nat} {C : Addr} (hC : C ∈ eleven) (X : (topk.heap_1 w.params).In s.heap) (hf : s.heap.get? f = some (excObj C dx tp)) (htp : s.heap.get? tp = some (seqObj "tuple" #[.str k t4] n')) :
    wpAny (model PR w) AX (call (.type "str") [.ref f]) (SPost s k) (fun _ _ => False) s :=
  shape (P := fun C => s.heap.get? f = some (excObj C dx tp) → wpAny (model PR w) AX (call (.type "str") [.ref f]) (SPost s k) (fun _ _ => False) s) X (fun hf => str_37 X hf htp) (fun h1 h2 h3 h4 h5 hf => str_G X h1 h2 h3 h4 h5 hf htp) C hC hf
variable {dp un : Nat} {gd : Option (List Code)} {cn : Str} {cs : Scope} {a : Addr} {ccd : Value} {cl : List (Str × Addr)} {outer : List Env}
theorem lend_ret {C : Addr} {k : Str} {sp : Int} {P : Value → Shared → Prop} (F : Fr h₀ L s.heap m) (N : News h₀ L s.heap news)
    (ret : ∀ (f dx tp : Addr) (h' : Heap) (tk' : Nat) (es : List DictEntry) (n n' : Nat) (t1 t3 t4 : Tok), Fr h₀ L h' m → News h₀ L h' ((f, excObj C dx tp) :: (dx, dictOf es n) :: (tp, seqObj "tuple" #[.str k t4] n') :: news) → (∀ q ∈ news, q.1 ≠ f ∧ q.1 ≠ dx ∧ q.1 ≠ tp) →
      getL "message" es = some (some (.str k t1)) → getL "spot" es = some (some (.int sp t3)) → P (.ref f) { s with heap := h', toks := tk' }) (r : Value) (s' : Shared) (h : LPost C s k sp r s') : P r s' := by
  obtain ⟨f, dx, tp, h', tk', es, n, n', nw, t1, t3, t4, rfl, rfl, D, m1, m2, m3, g1, g2⟩ := h
  obtain ⟨F', _, N', hne⟩ := mem_grow F N D
  refine ret f dx tp h' tk' es n n' t1 t3 t4 F' (N' [(f, excObj C dx tp), (dx, dictOf es n), (tp, seqObj "tuple" #[.str k t4] n')] fun p hp => ?_) (fun q hq => ⟨hne q hq _ m1, hne q hq _ m2, hne q hq _ m3⟩) g1 g2
  revert p
  exact List.forall_mem_cons.mpr ⟨m1, List.forall_mem_cons.mpr ⟨m2, List.forall_mem_cons.mpr ⟨m3, fun _ h => absurd h List.not_mem_nil⟩⟩⟩
theorem lend2_use {t1 t3 : Tok} {k : Str} {sp : Int} {C : Addr} (hC : C ∈ eleven) (hdp : dp ≤ 400) (hun : un ≤ 500) (F : Fr h₀ L s.heap m) (X : (topk.heap_1 w.params).In h₀) (N : News h₀ L s.heap news)
    (ret : ∀ (f dx tp : Addr) (h' : Heap) (tk' : Nat) (es : List DictEntry) (n n' : Nat) (t1 t3 t4 : Tok), Fr h₀ L h' m → News h₀ L h' ((f, excObj C dx tp) :: (dx, dictOf es n) :: (tp, seqObj "tuple" #[.str k t4] n') :: news) → (∀ q ∈ news, q.1 ≠ f ∧ q.1 ≠ dx ∧ q.1 ≠ tp) →
      getL "message" es = some (some (.str k t1)) → getL "spot" es = some (some (.int sp t3)) → Q (.ref f) { s with heap := h', toks := tk' }) :
    wpAny (model PR w) (ktrTop dp un gd cn cs L a ccd cl outer) (call (.ref C) [.str k t1, .int sp t3]) Q E s :=
  wk (A' := AX) rfl hdp rfl rfl hun (wpAny_mono (lend2_all hC (X.keeps F.keep)) (lend_ret F N ret) (fun _ _ e => e.elim))
theorem lend1_use {t1 : Tok} {k : Str} {C : Addr} (hC : C ∈ eleven) (hdp : dp ≤ 400) (hun : un ≤ 500) (F : Fr h₀ L s.heap m) (X : (topk.heap_1 w.params).In h₀) (N : News h₀ L s.heap news)
    (ret : ∀ (f dx tp : Addr) (h' : Heap) (tk' : Nat) (es : List DictEntry) (n n' : Nat) (t1 t3 t4 : Tok), Fr h₀ L h' m → News h₀ L h' ((f, excObj C dx tp) :: (dx, dictOf es n) :: (tp, seqObj "tuple" #[.str k t4] n') :: news) → (∀ q ∈ news, q.1 ≠ f ∧ q.1 ≠ dx ∧ q.1 ≠ tp) →
      getL "message" es = some (some (.str k t1)) → getL "spot" es = some (some (.int 0 t3)) → Q (.ref f) { s with heap := h', toks := tk' }) :
    wpAny (model PR w) (ktrTop dp un gd cn cs L a ccd cl outer) (call (.ref C) [.str k t1]) Q E s :=
  wk (A' := AX) rfl hdp rfl rfl hun (wpAny_mono (lend1_all hC (X.keeps F.keep)) (lend_ret F N ret) (fun _ _ e => e.elim))
theorem str_use {f dx tp : Addr} {k : Str} {t4 : Tok} {n' : Nat} {C : Addr} (hC : C ∈ eleven) (hdp : dp ≤ 400) (hun : un ≤ 500) (F : Fr h₀ L s.heap m) (X : (topk.heap_1 w.params).In h₀) (N : News h₀ L s.heap news) (mf : (f, excObj C dx tp) ∈ news) (mt : (tp, seqObj "tuple" #[.str k t4] n') ∈ news)
    (ret : ∀ t, Q (.str k t) s) : wpAny (model PR w) (ktrTop dp un gd cn cs L a ccd cl outer) (call (.type "str") [.ref f]) Q E s :=
  wk (A' := AX) rfl hdp rfl rfl hun (wpAny_mono (str_all hC (X.keeps F.keep) (N _ mf).1 (N _ mt).1) (fun r s' h => by obtain ⟨t, rfl, rfl⟩ := h; exact ret t) (fun _ _ e => e.elim))
theorem borrow2_use {k p : Str} {t1 t2 : Tok} (hdp : dp ≤ 400) (hun : un ≤ 500) (F : Fr h₀ L s.heap m) (X : (topk.heap_1 w.params).In h₀) (N : News h₀ L s.heap news) (hk : 0 < k.length) (hk2 : k.length ≤ 100) (hp : 0 < p.length) (hp2 : p.length ≤ 100)
    (ret : ∀ (f dx tp : Addr) (h' : Heap) (tk' : Nat) (es : List DictEntry) (n : Nat) (t1 t2 t3 : Tok), Fr h₀ L h' m → News h₀ L h' ((f, excObj 155 dx tp) :: (dx, dictOf es n) :: news) → (∀ q ∈ news, q.1 ≠ f ∧ q.1 ≠ dx) →
      getL "message" es = some (some (.str (k ++ sep ++ p) t1)) → getL "kind" es = some (some (.str k t2)) → getL "spot" es = some (some (.int 0 t3)) → getL "rows" es = some (some (.ref 144)) → Q (.ref f) { s with heap := h', toks := tk' }) :
    wpAny (model PR w) (ktrTop dp un gd cn cs L a ccd cl outer) (call (.ref 155) [.str k t1, .str p t2]) Q E s := by
  refine wk (A' := AX) rfl hdp rfl rfl hun (wpAny_mono (borrow2_x0 (t3 := 0) (sp := 0) (rl := 0) (tu := 0) (tv := 0) (n := 0) (X.keeps F.keep) trivial hk hk2 hp hp2 (sep_len (p := p)).1 sep_len.2) (fun r s' h => ?_) (fun _ _ e => e.elim))
  obtain ⟨f, dx, tp, h', tk', es, n, nw, t1, t2, t3, rfl, rfl, D, m1, m2, g1, g2, g3, g4⟩ := h
  obtain ⟨F', _, N', hne⟩ := mem_grow F N D
  refine ret f dx tp h' tk' es n t1 t2 t3 F' (N' [(f, excObj 155 dx tp), (dx, dictOf es n)] fun p hp => ?_) (fun q hq => ⟨hne q hq _ m1, hne q hq _ m2⟩) g1 g2 g3 g4
  revert p
  exact List.forall_mem_cons.mpr ⟨m1, List.forall_mem_cons.mpr ⟨m2, fun _ h => absurd h List.not_mem_nil⟩⟩
theorem borrowL_use {k p : Str} {t1 t2 t3 : Tok} {sp : Int} {rl tu tv : Addr} {n : Nat} (hdp : dp ≤ 400) (hun : un ≤ 500) (F : Fr h₀ L s.heap m) (X : (topk.heap_1 w.params).In h₀) (N : News h₀ L s.heap news) (hr : (rl, seqObj "list" #[.ref tu, .ref tv] n) ∈ news) (hk : 0 < k.length) (hk2 : k.length ≤ 100) (hp : 0 < p.length) (hp2 : p.length ≤ 100)
    (ret : ∀ (f dx tp rt : Addr) (h' : Heap) (tk' : Nat) (es : List DictEntry) (n n' : Nat) (t1 t2 t3 : Tok), Fr h₀ L h' m → News h₀ L h' ((f, excObj 155 dx tp) :: (dx, dictOf es n) :: (rt, seqObj "tuple" #[.ref tu, .ref tv] n') :: news) → (∀ q ∈ news, q.1 ≠ f ∧ q.1 ≠ dx ∧ q.1 ≠ rt) →
      getL "message" es = some (some (.str (k ++ sep ++ p) t1)) → getL "kind" es = some (some (.str k t2)) → getL "spot" es = some (some (.int sp t3)) → getL "rows" es = some (some (.ref rt)) → Q (.ref f) { s with heap := h', toks := tk' }) :
    wpAny (model PR w) (ktrTop dp un gd cn cs L a ccd cl outer) (call (.ref 155) [.str k t1, .str p t2, .int sp t3, .ref rl]) Q E s := by
  refine wk (A' := AX) rfl hdp rfl rfl hun (wpAny_mono (borrowL_x0 (X.keeps F.keep) (N _ hr).1 hk hk2 hp hp2 (sep_len (p := p)).1 sep_len.2) (fun r s' h => ?_) (fun _ _ e => e.elim))
  obtain ⟨f, dx, tp, rt, h', tk', es, n, n', nw, t1, t2, t3, rfl, rfl, D, m1, m2, m3, g1, g2, g3, g4⟩ := h
  obtain ⟨F', _, N', hne⟩ := mem_grow F N D
  refine ret f dx tp rt h' tk' es n n' t1 t2 t3 F' (N' [(f, excObj 155 dx tp), (dx, dictOf es n), (rt, seqObj "tuple" #[.ref tu, .ref tv] n')] fun p hp => ?_) (fun q hq => ⟨hne q hq _ m1, hne q hq _ m2, hne q hq _ m3⟩) g1 g2 g3 g4
  revert p
  exact List.forall_mem_cons.mpr ⟨m1, List.forall_mem_cons.mpr ⟨m2, List.forall_mem_cons.mpr ⟨m3, fun _ h => absurd h List.not_mem_nil⟩⟩⟩
theorem mach_use {k p : Str} {t1 t2 : Tok} (hdp : dp ≤ 400) (hun : un ≤ 500) (F : Fr h₀ L s.heap m) (X : (topk.heap_1 w.params).In h₀) (N : News h₀ L s.heap news) (hk : 0 < k.length) (hk2 : k.length ≤ 100) (hp : 0 < p.length) (hp2 : p.length ≤ 100)
    (ret : ∀ (f dx tp : Addr) (h' : Heap) (tk' : Nat) (es : List DictEntry) (n : Nat) (t1 t2 : Tok), Fr h₀ L h' m → News h₀ L h' ((f, excObj 174 dx tp) :: (dx, dictOf es n) :: news) → (∀ q ∈ news, q.1 ≠ f ∧ q.1 ≠ dx) →
      getL "message" es = some (some (.str (k ++ sep ++ p) t1)) → getL "kind" es = some (some (.str k t2)) → Q (.ref f) { s with heap := h', toks := tk' }) :
    wpAny (model PR w) (ktrTop dp un gd cn cs L a ccd cl outer) (call (.ref 174) [.str k t1, .str p t2]) Q E s := by
  refine wk (A' := AX) rfl hdp rfl rfl hun (wpAny_mono (mach_x0 (t3 := 0) (sp := 0) (rl := 0) (tu := 0) (tv := 0) (n := 0) (X.keeps F.keep) trivial hk hk2 hp hp2 (sep_len (p := p)).1 sep_len.2) (fun r s' h => ?_) (fun _ _ e => e.elim))
  obtain ⟨f, dx, tp, h', tk', es, n, nw, t1, t2, rfl, rfl, D, m1, m2, g1, g2⟩ := h
  obtain ⟨F', _, N', hne⟩ := mem_grow F N D
  refine ret f dx tp h' tk' es n t1 t2 F' (N' [(f, excObj 174 dx tp), (dx, dictOf es n)] fun p hp => ?_) (fun q hq => ⟨hne q hq _ m1, hne q hq _ m2⟩) g1 g2
  revert p
  exact List.forall_mem_cons.mpr ⟨m1, List.forall_mem_cons.mpr ⟨m2, fun _ h => absurd h List.not_mem_nil⟩⟩
end
end Mine
end

-- E11
section
open PySem PySem.W PySem.W.X PyProof.Rows PySem.Calls PySem.Spec
set_option Elab.async false
set_option maxRecDepth 100000
set_option maxHeartbeats 4000000
namespace Mine
def tbl11 : List (Addr × Str) := [(50, "words"), (62, "grammar"), (74, "names"), (86, "visibility"), (98, "types"), (110, "traits"), (122, "coherence"), (134, "patterns"), (186, "other"), (198, "other"), (37, "other")]
def cK (q : Nat) : Addr := (tbl11.getD q (0, "")).1
def cW (q : Nat) : Str := (tbl11.getD q (0, "")).2
theorem cK_mem : ∀ q, q < 11 → cK q ∈ eleven := by decide
theorem cK_12 : ∀ q, q < 11 → cK q ∈ classes12 := by decide
theorem cK_155 : ∀ q, q < 11 → cK q ≠ 155 := by decide
theorem cW_of : ∀ q, q < 11 → wordOf (cK q) = cW q := by decide
section
variable {w : World} {mean : ExcName → Option Value} {mg mb : Str → Option Value}
theorem classes_spec {dp un : Nat} {gd : Option (List Code)} {cn : Str} {cs : Scope} {L a : Addr} {ccd : Value} {cl : List (Str × Addr)} {outer : List Env} {A₀ : Around} {base h₀ : Heap} {m : Str → Option Value} {s : Shared} {Q E : Value → Shared → Prop}
  {rest : List (Addr × Obj)}
  (B : Below A₀ base outer h₀) (F : Fr h₀ L s.heap m) (X : (topk.heap_1 w.params).In h₀) (T : Top VW LZ mean mg mb h₀) (hk : cs.kind = .function) (hd : dp + 20 < recursionLimit) (hu : un + 100 < cLine)
  (N : News h₀ L s.heap rest)
  (ret : ∀ (D : Addr) (ds : List Addr) (b9 : List (Addr × Obj)) (h' : Heap) (tk' : Nat), ds.length = 11 → (∀ q, q < 11 → ∃ t n, (ds.getD q 0, seqObj "tuple" #[.ref (cK q), .str (cW q) t] n) ∈ b9) → (D, listOf (ds.map Value.ref).toArray 0) ∈ b9 → (∀ p ∈ rest, p ∈ b9) → (∀ p ∈ rest, p.1 < D) → (∀ q, q < 11 → ∀ p ∈ rest, p.1 < ds.getD q 0) →
    Fr h₀ L h' m → News h₀ L h' b9 → Q (.ref D) { s with heap := h', toks := tk' }) :
  wpAny (model PR w) (ktrTop dp un gd cn cs L a ccd cl outer) (call (.ref 252) []) Q E s := by
  refine wpAny_call ?_
  k_dflt (first | ktr_enter | (refine' code_defC ?k1 ?k2 ?k3 ?k4 ?k5 ?kA ?kF ?kK ?k6 ?k7 ?k8 ?k9 ?kB ?kD ?_ ?c2 ?c3 ?c4; (case kA => exact rfl); (case kF => exact rfl); (case kK => assumption); (case k1 => k_asm); (case k2 => k_asm); (case k3 => k_asm); (case k4 => k_asm); (case k5 => k_asm); (case k6 => k_is); (case k7 => k_is); (case k8 => ktr_room); (case k9 => first | exact BindsTo.of_eq rfl | exact binds_K (by k_in) rfl (by k_is) rfl rfl rfl | fail "k_enter: no rule for these arguments"); (case kB => exact rfl); (case kD => decide +kernel); (case c2 => exact rfl); (case c3 => exact rfl); (case c4 => exact rfl); k_whole; intro g' L' h' tk' cells' FG' F' N' Y' B' X' T' l1; (try k_lt l1); k_cells Y'; (try simp only [List.cons_append, List.nil_append] at N'); (try dsimp only); (try k_lift B'); (try k_fold)))
  k_steps
  rename_i A1 _ l1 A2 _ l2 A3 _ l3 A4 _ l4 A5 _ l5 A6 _ l6 A7 _ l7 A8 _ l8 A9 _ l9 A10 _ l10 A11 _ l11 D _ _ _ lD kF kN _ _
  have z1 := l1
  have z2 : ∀ p ∈ rest, p.1 < A2 := fun p hp => Nat.lt_trans (z1 p hp) l2.1
  have z3 : ∀ p ∈ rest, p.1 < A3 := fun p hp => Nat.lt_trans (z2 p hp) l3.1
  have z4 : ∀ p ∈ rest, p.1 < A4 := fun p hp => Nat.lt_trans (z3 p hp) l4.1
  have z5 : ∀ p ∈ rest, p.1 < A5 := fun p hp => Nat.lt_trans (z4 p hp) l5.1
  have z6 : ∀ p ∈ rest, p.1 < A6 := fun p hp => Nat.lt_trans (z5 p hp) l6.1
  have z7 : ∀ p ∈ rest, p.1 < A7 := fun p hp => Nat.lt_trans (z6 p hp) l7.1
  have z8 : ∀ p ∈ rest, p.1 < A8 := fun p hp => Nat.lt_trans (z7 p hp) l8.1
  have z9 : ∀ p ∈ rest, p.1 < A9 := fun p hp => Nat.lt_trans (z8 p hp) l9.1
  have z10 : ∀ p ∈ rest, p.1 < A10 := fun p hp => Nat.lt_trans (z9 p hp) l10.1
  have z11 : ∀ p ∈ rest, p.1 < A11 := fun p hp => Nat.lt_trans (z10 p hp) l11.1
  have zD : ∀ p ∈ rest, p.1 < D := fun p hp => Nat.lt_trans (z11 p hp) lD.1
  refine ret D [A1, A2, A3, A4, A5, A6, A7, A8, A9, A10, A11] _ _ _ rfl ?_ (List.Mem.head _) (fun p hp => ?_) zD ?_ kF kN
  · exact (ltS (n := 10) (ltS (n := 9) (ltS (n := 8) (ltS (n := 7) (ltS (n := 6) (ltS (n := 5) (ltS (n := 4) (ltS (n := 3) (ltS (n := 2) (ltS (n := 1) (ltS (n := 0) lt0 ⟨_, _, (by (repeat (first | exact List.Mem.head _ | refine List.Mem.tail _ ?_)))⟩) ⟨_, _, (by (repeat (first | exact List.Mem.head _ | refine List.Mem.tail _ ?_)))⟩) ⟨_, _, (by (repeat (first | exact List.Mem.head _ | refine List.Mem.tail _ ?_)))⟩) ⟨_, _, (by (repeat (first | exact List.Mem.head _ | refine List.Mem.tail _ ?_)))⟩) ⟨_, _, (by (repeat (first | exact List.Mem.head _ | refine List.Mem.tail _ ?_)))⟩) ⟨_, _, (by (repeat (first | exact List.Mem.head _ | refine List.Mem.tail _ ?_)))⟩) ⟨_, _, (by (repeat (first | exact List.Mem.head _ | refine List.Mem.tail _ ?_)))⟩) ⟨_, _, (by (repeat (first | exact List.Mem.head _ | refine List.Mem.tail _ ?_)))⟩) ⟨_, _, (by (repeat (first | exact List.Mem.head _ | refine List.Mem.tail _ ?_)))⟩) ⟨_, _, (by (repeat (first | exact List.Mem.head _ | refine List.Mem.tail _ ?_)))⟩) ⟨_, _, (by (repeat (first | exact List.Mem.head _ | refine List.Mem.tail _ ?_)))⟩)
  · repeat (first | exact hp | refine List.Mem.tail _ ?_)
  · exact (ltS (n := 10) (ltS (n := 9) (ltS (n := 8) (ltS (n := 7) (ltS (n := 6) (ltS (n := 5) (ltS (n := 4) (ltS (n := 3) (ltS (n := 2) (ltS (n := 1) (ltS (n := 0) lt0 z1) z2) z3) z4) z5) z6) z7) z8) z9) z10) z11)
end
end Mine
end

-- E12
section
open PySem PySem.W PySem.W.X PyProof.Rows PySem.Calls PySem.Spec
set_option Elab.async false
set_option maxRecDepth 100000
set_option maxHeartbeats 4000000
namespace Mine
theorem isi_yes {w : World} {A : Around} {s : Shared} {h₀ : Heap} {L : Addr} {m : Str → Option Value} {Q E : Value → Shared → Prop} {C K2 f dx tp : Addr} {es : List DictEntry} {n : Nat} {news : List (Addr × Obj)} (e : isIn (topk.heap_1 w.params) (.ref C) K2 = true)
    (X : (topk.heap_1 w.params).In h₀) (F : Fr h₀ L s.heap m) (N : News h₀ L s.heap news) (mf : (f, excObj C dx tp) ∈ news) (md : (dx, dictOf es n) ∈ news) (h : Q (.bool true) s) : wpAny (model PR w) A (call (.builtin "isinstance") [.ref f, .ref K2]) Q E s :=
  isi_call (X.keeps F.keep) (fun M => (inst_exc N mf md).type) e (by intro e; cases e) h
section
local macro_rules
  | `(tactic| walk_at "call builtin:isinstance") => `(tactic| (refine stop ?_))
  | `(tactic| walk_at "getAttr ref") => `(tactic| (refine stop ?_))
variable {w : World} {mean : ExcName → Option Value} {mg mb : Str → Option Value}
theorem word155_spec {dp un : Nat} {gd : Option (List Code)} {cn : Str} {cs : Scope} {L a : Addr} {ccd : Value} {cl : List (Str × Addr)} {outer : List Env} {A₀ : Around} {base h₀ : Heap} {m : Str → Option Value} {s : Shared} {Q E : Value → Shared → Prop}
  {f dx tp : Addr} {es : List DictEntry} {n : Nat} {rest : List (Addr × Obj)} {k : Str} {t1 : Tok}
  (B : Below A₀ base outer h₀) (F : Fr h₀ L s.heap m) (X : (topk.heap_1 w.params).In h₀) (T : Top VW LZ mean mg mb h₀) (hk : cs.kind = .function) (hd : dp + 20 < recursionLimit) (hu : un + 100 < cLine)
  (N : News h₀ L s.heap rest) (mf : (f, excObj 155 dx tp) ∈ rest) (md : (dx, dictOf es n) ∈ rest) (g2 : getL "kind" es = some (some (.str k t1)))
  (ret : ∀ (h' : Heap) (tk' : Nat), Fr h₀ L h' m → News h₀ L h' rest → Q (.str k t1) { s with heap := h', toks := tk' }) :
  wpAny (model PR w) (ktrTop dp un gd cn cs L a ccd cl outer) (call (.ref 207) [.ref f]) Q E s := by
  refine wpAny_call ?_
  k_dflt (first | ktr_enter | (refine' code_defC ?k1 ?k2 ?k3 ?k4 ?k5 ?kA ?kF ?kK ?k6 ?k7 ?k8 ?k9 ?kB ?kD ?_ ?c2 ?c3 ?c4; (case kA => exact rfl); (case kF => exact rfl); (case kK => assumption); (case k1 => k_asm); (case k2 => k_asm); (case k3 => k_asm); (case k4 => k_asm); (case k5 => k_asm); (case k6 => k_is); (case k7 => k_is); (case k8 => ktr_room); (case k9 => first | exact BindsTo.of_eq rfl | exact binds_K (by k_in) rfl (by k_is) rfl rfl rfl | fail "k_enter: no rule for these arguments"); (case kB => exact rfl); (case kD => decide +kernel); (case c2 => exact rfl); (case c3 => exact rfl); (case c4 => exact rfl); k_whole; intro g' L' h' tk' cells' FG' F' N' Y' B' X' T' l1; (try k_lt l1); k_cells Y'; (try simp only [List.cons_append, List.nil_append] at N'); (try dsimp only); (try k_lift B'); (try k_fold)))
  k_steps
  delta Stop
  (rename Fr _ _ _ _ => F9)
  (rename News _ _ _ _ => N9)
  refine isi_yes (by unfold isIn; simp) (by assumption) F9 N9 mf md ?_
  k_steps
  delta Stop
  refine exc_attr (exc155 w) F9 (by assumption) N9 mf md (exc155 w).kind g2 rfl ?_
  k_steps
  exact ret _ _ (by assumption) (by assumption)
end
end Mine
end

-- E13
section
open PySem PySem.W PySem.W.X PyProof.Rows PySem.Calls PySem.Spec
set_option Elab.async false
set_option maxRecDepth 100000
set_option maxHeartbeats 4000000
namespace Mine
theorem tup_eq {A : Around} {s : Shared} {h₀ : Heap} {L t u : Addr} {news : List (Addr × Obj)} {xs ys : Array Value} {n n' : Nat} (N : News h₀ L s.heap news) (h1 : (t, seqObj "tuple" xs n) ∈ news) (h2 : (u, seqObj "tuple" ys n') ∈ news) (hsz : xs.size = ys.size) (hu : A.units < cLine)
    (he : ∀ j (h1 : j < xs.size) (h2 : j < ys.size), SeqAt.EqAt A.in1 s xs[j] ys[j] true) : SeqAt.EqAt A s (.ref t) (.ref u) true := by
  by_cases e : t = u
  · subst e; exact SeqAt.EqAt.same _
  refine SeqAt.EqAt.of_refs e ?_
  have := SeqAt.RcAt.tuples (A := A) (s := s) (e := fun _ => true) (News.isTup N h1) (News.isTup N h2) hu he
  rw [all_tt, hsz] at this
  simpa using this
theorem keep11 (w : World) {C : Addr} (hC : C ∈ eleven) : keepIn (topk.heap_1 w.params) (.ref C) = true := by
  refine (?_ : ∀ C ∈ eleven, keepIn (topk.heap_1 w.params) (.ref C) = true) C hC
  unfold eleven
  repeat (refine List.forall_mem_cons.mpr ⟨(by k_is), ?_⟩)
  exact fun _ h => absurd h List.not_mem_nil
section
set_option hygiene false in
local macro_rules | `(tactic| walk_at "callWith") => `(tactic| ((with_reducible show wpAny _ _ (callWith _ (Value.ref C) _ _ _) _ _ _); k_dflt (refine' callWith_K ?k1 ?k2 ?_; (case k1 => k_asm); (case k2 => exact hkeep); k_whole)))
set_option hygiene false in
local macro_rules | `(tactic| walk_at "eval Name") => `(tactic| ((with_reducible show wpAny _ _ (eval (Expr.Name (Str.ofString "source") _) (envOf _ _ _ _ _)) _ _ _); (rename Fr _ _ _ _ => lF9); k_dflt (refine nameX_L lF9 (by first | exact m2 | ((repeat (refine Eq.trans (if_neg (by decide)) ?_)); exact m2)) ?_)))
local macro_rules
  | `(tactic| walk_at "call ref") => `(tactic| (refine stop ?_))
  | `(tactic| walk_at "exec For") => `(tactic| (refine stop ?_))
  | `(tactic| walk_at "exec For Tuple Call cons nil") => `(tactic| (refine stop ?_))
  | `(tactic| walk_at "pyIter ref") => `(tactic| (refine stop ?_))
  | `(tactic| walk_at "call builtin:isinstance") => `(tactic| (refine stop ?_))
  | `(tactic| walk_at "getAttr ref") => `(tactic| (refine stop ?_))
  | `(tactic| walk_at "call type:str") => `(tactic| (refine stop ?_))
  | `(tactic| walk_at "compareOp NotEq ref ref") => `(tactic| (refine stop ?_))
  | `(tactic| walk_at "compareOp NotEq str str") => `(tactic| (refine stop ?_))
variable {w : World} {mean : ExcName → Option Value} {mg mb : Str → Option Value}
theorem errors_spec {dp un : Nat} {gd : Option (List Code)} {cn : Str} {cs : Scope} {L a : Addr} {ccd : Value} {cl : List (Str × Addr)} {outer : List Env} {A₀ : Around} {base h₀ : Heap} {m : Str → Option Value} {s : Shared} {Q E : Value → Shared → Prop}
  {src : Addr} {o : Obj} {rest : List (Addr × Obj)}
  (B : Below A₀ base outer h₀) (F : Fr h₀ L s.heap m) (X : (topk.heap_1 w.params).In h₀) (T : Top VW LZ mean mg mb h₀) (hk : cs.kind = .function) (hd : dp + 40 < recursionLimit) (hu : un + 200 < cLine) (hdp : dp ≤ 350) (hun : un ≤ 300)
  (N : News h₀ L s.heap ((src, o) :: rest)) (hne : ∀ p ∈ rest, p.1 ≠ src) (hs : SrcOk o)
  (ret : ∀ (o' : Obj) (h' : Heap) (tk' : Nat), SrcOk o' → Fr h₀ L h' m → News h₀ L h' ((src, o') :: rest) → Q (.bool true) { s with heap := h', toks := tk' }) :
  wpAny (model PR w) (ktrTop dp un gd cn cs L a ccd cl outer) (call (.ref 259) [.ref src]) Q E s := by
  refine wpAny_call ?_
  k_dflt (first | ktr_enter | (refine' code_defC ?k1 ?k2 ?k3 ?k4 ?k5 ?kA ?kF ?kK ?k6 ?k7 ?k8 ?k9 ?kB ?kD ?_ ?c2 ?c3 ?c4; (case kA => exact rfl); (case kF => exact rfl); (case kK => assumption); (case k1 => k_asm); (case k2 => k_asm); (case k3 => k_asm); (case k4 => k_asm); (case k5 => k_asm); (case k6 => k_is); (case k7 => k_is); (case k8 => ktr_room); (case k9 => first | exact BindsTo.of_eq rfl | exact binds_K (by k_in) rfl (by k_is) rfl rfl rfl | fail "k_enter: no rule for these arguments"); (case kB => exact rfl); (case kD => decide +kernel); (case c2 => exact rfl); (case c3 => exact rfl); (case c4 => exact rfl); k_whole; intro g' L' h' tk' cells' FG' F' N' Y' B' X' T' l1; (try k_lt l1); k_cells Y'; (try simp only [List.cons_append, List.nil_append] at N'); (try dsimp only); (try k_lift B'); (try k_fold)))
  k_steps
  delta Stop
  (rename Fr _ _ _ _ => F9)
  (rename News _ _ _ _ => N9)
  k_dflt (refine For_turns F9 ?_)
  k_steps
  delta Stop
  show wpAny _ _ (call (.ref 252) []) _ _ _
  k_dflt (refine' classes_spec ?y1 F9 ?y2 ?y3 ?y4 ?y5 ?y6 N9 ?y7)
  case y1 => k_asm
  case y2 => k_asm
  case y3 => k_asm
  case y4 => exact rfl
  case y5 => ktr_room
  case y6 => ktr_units
  intro D ds b9 h1 tk1 hdl hrow9 hD9 hsub ltD ltds F8 N8
  clear N9 F9
  obtain ⟨b, hb⟩ : ∃ b, b = offL src b9 := ⟨_, rfl⟩
  have neb : ∀ p ∈ b, p.1 ≠ src := fun p hp => by rw [hb] at hp; exact (mem_offL.mp hp).2
  have hD : (D, listOf (ds.map Value.ref).toArray 0) ∈ b := by rw [hb]; exact mem_offL.mpr ⟨hD9, Nat.ne_of_gt (ltD (src, o) (.head _))⟩
  have hrow : ∀ q, q < 11 → ∃ t n, (ds.getD q 0, seqObj "tuple" #[.ref (cK q), .str (cW q) t] n) ∈ b := fun q hq => by
    obtain ⟨t, n, hm⟩ := hrow9 q hq
    exact ⟨t, n, by rw [hb]; exact mem_offL.mpr ⟨hm, Nat.ne_of_gt (ltds q hq (src, o) (.head _))⟩⟩
  have hsb : ∀ p ∈ rest, p ∈ b := fun p hp => by rw [hb]; exact mem_offL.mpr ⟨hsub p (.tail _ hp), hne p hp⟩
  have N7 := newsSub N8 (a := (src, o) :: b) fun p hp => by
    rcases List.mem_cons.mp hp with rfl | hp
    · exact hsub _ (.head _)
    · rw [hb] at hp; exact (mem_offL.mp hp).1
  clear N8 hrow9 hD9 hsub hb ltD ltds
  k_steps
  delta Stop
  refine iter_listTurns (lo := listOf (ds.map Value.ref).toArray 0) (vs := ds.map Value.ref) (by rfl) F8 N7 (.tail _ hD) rfl rfl ?_
  intro I lI
  have hIs : src < I := lI _ (.head _)
  have hIb : ∀ p ∈ b, p.1 < I := fun p hp => lI p (.tail _ hp)
  clear lI
  refine itemsRest_of (fun its mm nw => ∃ q oS, q ≤ 11 ∧ its = ((ds.map Value.ref).drop q).map Itm.val ∧ nw = (src, oS) :: b ∧ SrcOk oS ∧ mm (Str.ofString "source") = some (.ref src)) ?step ?fin _ _ _ ⟨0, o, Nat.zero_le _, rfl, rfl, hs, rfl⟩
  case fin =>
    rintro mm nw ⟨q, oS, hq, e1, rfl, hS, m2⟩ h' tk' F N
    k_steps
    delta Stop
    rename_i tu _ ltu tv _ ltv rl _ lF lN ltr
    have e9 : (Str.ofString "move under a loan" ++ sep ++ Str.ofString "x") = Str.ofString "move under a loan: x" := by decide
    k_dflt (refine' borrowL_use ?w1 ?w2 lF ?w3 lN (.head _) (by decide +kernel) (by decide +kernel) (by decide +kernel) (by decide +kernel) ?w5)
    case w1 => (show dp + 1 ≤ 400); omega
    case w2 => (change un + _ ≤ 500); omega
    case w3 => k_asm
    intro f dx tp rt h5 tk5 es n5 n6 t1 t2 t3 eF eN enew g1 g2 g3 g4
    rw [e9] at g1
    clear lN lF
    k_steps
    delta Stop
    (rename Fr _ _ _ _ => mF)
    (rename News _ _ _ _ => mN)
    rename_i y1 _ ly1 y2 _ ly2 z _ lz due _ ldue _
    refine exc_attr (exc155 w) mF (by assumption) mN (by (repeat (first | exact List.Mem.head _ | refine List.Mem.tail _ ?_))) (by (repeat (first | exact List.Mem.head _ | refine List.Mem.tail _ ?_))) (exc155 w).kind g2 rfl ?_
    k_steps
    delta Stop
    refine exc_attr (exc155 w) mF (by assumption) mN (by (repeat (first | exact List.Mem.head _ | refine List.Mem.tail _ ?_))) (by (repeat (first | exact List.Mem.head _ | refine List.Mem.tail _ ?_))) (exc155 w).msg g1 rfl ?_
    k_steps
    delta Stop
    refine exc_attr (exc155 w) mF (by assumption) mN (by (repeat (first | exact List.Mem.head _ | refine List.Mem.tail _ ?_))) (by (repeat (first | exact List.Mem.head _ | refine List.Mem.tail _ ?_))) (exc155 w).spot g3 rfl ?_
    k_steps
    delta Stop
    refine exc_attr (exc155 w) mF (by assumption) mN (by (repeat (first | exact List.Mem.head _ | refine List.Mem.tail _ ?_))) (by (repeat (first | exact List.Mem.head _ | refine List.Mem.tail _ ?_))) (exc155 w).rows g4 rfl ?_
    k_steps
    delta Stop
    (rename Fr _ _ _ _ => nF)
    (rename News _ _ _ _ => nN)
    refine ne_lists_same (News.isList nN (.head _)) (News.isList nN (.tail _ (.head _))) rfl (by ktr_units) (eqC (eq_ss _ _ _) (eqC (eq_ss _ _ _) (eqC (eq_ii _ _ _) (eqC ?_ eqN)))) ?_
    · refine tup_eq (t := rt) (u := z) (xs := #[.ref tu, .ref tv]) (ys := #[.ref y1, .ref y2]) nN (by (repeat (first | exact List.Mem.head _ | refine List.Mem.tail _ ?_))) (by (repeat (first | exact List.Mem.head _ | refine List.Mem.tail _ ?_))) (by rfl) (by ktr_units) (eqC ?_ (eqC ?_ eqN))
      · exact tup_eq (t := tu) (u := y1) (xs := #[.int 0 _, .int 1 _]) (ys := #[.int 0 _, .int 1 _]) nN (by (repeat (first | exact List.Mem.head _ | refine List.Mem.tail _ ?_))) (by (repeat (first | exact List.Mem.head _ | refine List.Mem.tail _ ?_))) (by rfl) (by ktr_units) (eqC (eq_ii _ _ _) (eqC (eq_ii _ _ _) eqN))
      · exact tup_eq (t := tv) (u := y2) (xs := #[.int 0 _, .int 4 _]) (ys := #[.int 0 _, .int 4 _]) nN (by (repeat (first | exact List.Mem.head _ | refine List.Mem.tail _ ?_))) (by (repeat (first | exact List.Mem.head _ | refine List.Mem.tail _ ?_))) (by rfl) (by ktr_units) (eqC (eq_ii _ _ _) (eqC (eq_ii _ _ _) eqN))
    k_steps
    delta Stop
    (rename Fr _ _ _ _ => oF)
    (rename News _ _ _ _ => oN)
    have e8 : (Str.ofString "dropped" ++ sep ++ Str.ofString "gone") = Str.ofString "dropped: gone" := by decide
    have oN2 := newsSub oN (a := (f, excObj 155 dx tp) :: (dx, dictOf es n5) :: (src, oS) :: b) fun p hp => by
      revert p
      repeat (refine List.forall_mem_cons.mpr ⟨(by repeat (first | exact List.Mem.head _ | refine List.Mem.tail _ ?_)), ?_⟩)
      exact fun _ h => by repeat (first | exact h | refine List.Mem.tail _ ?_)
    clear oN
    k_dflt (refine' mach_use ?q1 ?q2 oF ?q3 oN2 (by decide +kernel) (by decide +kernel) (by decide +kernel) (by decide +kernel) ?q5)
    case q1 => (show dp + 1 ≤ 400); omega
    case q2 => (change un + _ ≤ 500); omega
    case q3 => k_asm
    intro f2 dx2 tp2 h7 tk7 es2 n7 t11 t12 pF pN pnew g11 g12
    rw [e8] at g11
    clear oN2 oF
    k_steps
    delta Stop
    (rename Fr _ _ _ _ => pF)
    (rename News _ _ _ _ => pN)
    have X174 := ec w (C := 174) (by decide)
    refine exc_attr X174.exc pF (by assumption) pN (.head _) (.tail _ (.head _)) X174.exc.kind g12 rfl ?_
    k_steps
    delta Stop
    refine exc_attr X174.exc pF (by assumption) pN (.head _) (.tail _ (.head _)) X174.exc.msg g11 rfl ?_
    k_steps
    delta Stop
    k_dflt (refine' word_spec ?g1 pF ?g2 ?g3 ?g4 ?g5 ?g6 pN (.head _) (.tail _ (.head _)) X174 (by decide) ?g7)
    case g1 => k_asm
    case g2 => k_asm
    case g3 => k_asm
    case g4 => exact rfl
    case g5 => ktr_room
    case g6 => ktr_units
    intro kk tkk h8 tk8 hkk rF rN
    have hkw : kk = Str.ofString "other" := hkk.trans (by decide)
    clear hkk pN pF
    k_steps
    delta Stop
    (rename Fr _ _ _ _ => rF)
    (rename News _ _ _ _ => rN)
    refine ne_lists_same (News.isList rN (.tail _ (.head _))) (News.isList rN (.head _)) rfl (by ktr_units) (eqC (eq_ss _ _ _) (eqC (eq_ss _ _ _) (eqC ?_ eqN))) ?_
    · rw [hkw]; exact eq_ss _ _ _
    k_steps
    delta Stop
    (rename Fr _ _ _ _ => rF)
    (rename News _ _ _ _ => rN)
    k_dflt (refine' word155_spec ?j1 rF ?j2 ?j3 ?j4 ?j5 ?j6 rN (by (repeat (first | exact List.Mem.head _ | refine List.Mem.tail _ ?_))) (by (repeat (first | exact List.Mem.head _ | refine List.Mem.tail _ ?_))) g2 ?j7)
    case j1 => k_asm
    case j2 => k_asm
    case j3 => k_asm
    case j4 => exact rfl
    case j5 => ktr_room
    case j6 => ktr_units
    intro h9 tk9 tF tN
    clear rN rF
    k_steps
    delta Stop
    refine isi_yes X174.lend (by assumption) tF tN (by (repeat (first | exact List.Mem.head _ | refine List.Mem.tail _ ?_))) (by (repeat (first | exact List.Mem.head _ | refine List.Mem.tail _ ?_))) ?_
    k_steps
    rename_i kF kN _ _
    refine ret oS _ _ hS kF (newsSub kN fun p hp => ?_)
    rcases List.mem_cons.mp hp with h | h
    · simp [h]
    · simp [hsb p h]
  case step =>
    rintro v0 rr mm nw ⟨q, oS, hq, e1, rfl, hS, m2⟩ v h' tk' hv F oI hoI N
    have hq11 : q < 11 := by
      rcases Nat.lt_or_ge q 11 with h | h
      · exact h
      · rw [List.drop_eq_nil_of_le (by simp; omega)] at e1; cases e1
    have hql : q < (ds.map Value.ref).length := by simp; omega
    rw [List.drop_eq_getElem_cons hql, List.map_cons] at e1
    injection e1 with e1 e1'
    subst e1
    have hv7 : v = .ref (ds.getD q 0) := by
      have h1 : v = (ds.map Value.ref)[q] := hv
      rw [h1, List.getElem_map, List.getD_eq_getElem?_getD, List.getElem?_eq_getElem (by omega)]; rfl
    subst hv7
    obtain ⟨t, nt, hrow1⟩ := hrow q hq11
    have hC11 := cK_mem q hq11
    have hC12 := cK_12 q hq11
    have hC155 := cK_155 q hq11
    have hCW := cW_of q hq11
    obtain ⟨C, hCq⟩ : ∃ C, C = cK q := ⟨_, rfl⟩
    obtain ⟨W9, hWq⟩ : ∃ W, W = cW q := ⟨_, rfl⟩
    rw [← hCq] at hC11 hC12 hC155 hCW hrow1
    rw [← hWq] at hCW hrow1
    simp only [List.cons_append, List.nil_append] at N
    k_dflt (refine unpackN_ F N (News.isTup N (.tail _ (.tail _ hrow1))) rfl rfl rfl ?_)
    intro h2 F N
    obtain ⟨bb, hbb⟩ : ∃ x, x = (I, oI) :: b := ⟨_, rfl⟩
    have nebb : ∀ p ∈ bb, p.1 ≠ src := fun p hp => by
      rw [hbb] at hp
      rcases List.mem_cons.mp hp with rfl | hp
      · exact Nat.ne_of_gt hIs
      · exact neb p hp
    have N0 := newsSwap N
    rw [← hbb] at N0
    clear N
    have hkeep := keep11 w hC11
    have HE := ec w hC12
    k_steps
    delta Stop
    (rename News _ _ _ _ => aN)
    (rename Fr _ _ _ _ => aF)
    rename_i th _ lth
    have aN1 := newsSwap aN
    clear aN
    k_dflt (refine' one_use ?a1 aF ?a2 ?a3 ?a4 ?a5 ?a6 aN1 ?a0 ?a7 hS ?a8)
    case a1 => k_asm
    case a2 => k_asm
    case a3 => k_asm
    case a4 => exact rfl
    case a5 => ktr_room
    case a6 => ktr_units
    case a0 => exact rfl
    case a7 =>
      intro p hp
      rcases List.mem_cons.mp hp with rfl | hp
      · exact Nat.ne_of_gt lth.1
      · exact nebb p hp
    intro kd tkd o1 h3 tk3 hkd bS bF bN
    clear aN1 aF hkd
    k_steps
    delta Stop
    (rename Fr _ _ _ _ => bF)
    k_dflt (refine' take_use ?c1 bF ?c2 ?c3 ?c4 ?c5 ?c6 bN nebb bS ?c8 ?c9 ?cz)
    case c1 => k_asm
    case c2 => k_asm
    case c3 => k_asm
    case c4 => exact rfl
    case c5 => ktr_room
    case c6 => ktr_units
    case c8 => omega
    case c9 => omega
    intro sp tsp o2 h4 tk4 hsp0 hsp1 cS cF cN
    clear bN bF
    k_steps
    delta Stop
    (rename Fr _ _ _ _ => dF)
    (rename News _ _ _ _ => dN)
    have dN1 := newsSub dN (a := (src, o2) :: bb) fun p hp => .tail _ hp
    clear dN
    k_dflt (refine' lend2_use hC11 ?e1 ?e2 dF ?e3 dN1 ?e4)
    case e1 => (show dp + 1 ≤ 400); omega
    case e2 => (change un + _ ≤ 500); omega
    case e3 => k_asm
    intro f dx tp h5 tk5 es n5 n6 t1 t3 t4 eF eN enew g1 g2
    clear dN1 dF
    k_steps
    delta Stop
    (rename Fr _ _ _ _ => eF)
    (rename News _ _ _ _ => eN)
    k_dflt (refine' word_spec ?f1 eF ?f2 ?f3 ?f4 ?f5 ?f6 eN (.head _) (.tail _ (.head _)) HE hC155 ?f7)
    case f1 => k_asm
    case f2 => k_asm
    case f3 => k_asm
    case f4 => exact rfl
    case f5 => ktr_room
    case f6 => ktr_units
    intro kk tkk h6 tk6 hkk fF fN
    clear eN eF
    have hkw : kk = W9 := hkk.trans hCW
    clear hkk
    k_steps
    delta Stop
    refine ne_str ?_
    rw [show (kk != W9) = false by rw [hkw]; simp]
    k_steps
    delta Stop
    (rename Fr _ _ _ _ => fF)
    (rename News _ _ _ _ => fN)
    refine exc_attr HE.exc fF (by assumption) fN (.head _) (.tail _ (.head _)) HE.exc.msg g1 rfl ?_
    k_steps
    delta Stop
    refine exc_attr HE.exc fF (by assumption) fN (.head _) (.tail _ (.head _)) HE.exc.spot g2 rfl ?_
    k_steps
    delta Stop
    k_dflt (refine' str_use hC11 ?s1 ?s2 fF ?s3 fN (.head _) (.tail _ (.tail _ (.head _))) ?s4)
    case s1 => (show dp + 1 ≤ 400); omega
    case s2 => (change un + _ ≤ 500); omega
    case s3 => k_asm
    intro tks
    k_steps
    delta Stop
    (rename Fr _ _ _ _ => hF)
    (rename News _ _ _ _ => hN)
    refine ne_lists_same (News.isList hN (.tail _ (.head _))) (News.isList hN (.head _)) rfl (by ktr_units) (eqC (eq_ss kd t1 tkd) (eqC (eq_ii sp t3 tsp) (eqC (eq_ss kd tks tkd) eqN))) ?_
    k_steps
    delta Stop
    refine isi_yes HE.lend (by assumption) hF hN (.tail _ (.tail _ (.head _))) (.tail _ (.tail _ (.tail _ (.head _)))) ?_
    k_steps
    delta Stop
    (rename Fr _ _ _ _ => hF)
    (rename News _ _ _ _ => hN)
    have hN2 := newsSub hN (a := (src, o2) :: bb) fun p hp => by
      rcases List.mem_cons.mp hp with h | h <;> simp [h]
    clear hN
    k_dflt (refine' lend1_use hC11 ?v1 ?v2 hF ?v3 hN2 ?v4)
    case v1 => (show dp + 1 ≤ 400); omega
    case v2 => (change un + _ ≤ 500); omega
    case v3 => k_asm
    intro f2 dx2 tp2 h7 tk7 es2 n7 n8 t11 t13 t14 iF iN inew g11 g12
    clear hN2 hF
    k_steps
    delta Stop
    refine exc_attr HE.exc iF (by assumption) iN (.head _) (.tail _ (.head _)) HE.exc.spot g12 rfl ?_
    k_steps
    (rename Fr _ _ _ _ => jF)
    (rename News _ _ _ _ => jN)
    refine ⟨_, _, _, (src, o2) :: b, rfl, jF, newsSub jN ?nsub, ?off, ⟨.tail _ hD, trivial⟩, q + 1, o2, hq11, e1', rfl, cS, ?mm⟩
    case nsub =>
      intro p hp
      rw [hbb]
      dsimp only [List.cons_append, List.nil_append] at hp ⊢
      revert p
      repeat (refine List.forall_mem_cons.mpr ⟨(by repeat (first | exact List.Mem.head _ | refine List.Mem.tail _ ?_)), ?_⟩)
      exact fun _ h => by repeat (first | exact h | refine List.Mem.tail _ ?_)
    case off =>
      intro r hr p hp
      rw [List.mem_singleton.mp hp]
      rcases List.mem_cons.mp hr with rfl | hr
      · exact Nat.ne_of_lt hIs
      · exact Nat.ne_of_lt (hIb r hr)
    case mm =>
      (repeat (refine Eq.trans (if_neg (by decide)) ?_))
      exact m2
end
end Mine
end

-- L0
section
open PySem PySem.W PySem.W.X PyProof.Rows PySem.Calls PySem.Spec
set_option Elab.async false
set_option maxRecDepth 100000
set_option maxHeartbeats 400000
namespace Mine
def mA : Str := Str.ofString "assign twice" ++ sep ++ Str.ofString "x"
def mB : Str := Str.ofString "use of moved" ++ sep ++ Str.ofString "x"
def mC : Str := Str.ofString "assign twice" ++ sep ++ Str.ofString "y"
theorem mA_eq : mA = Str.ofString "assign twice: x" := by decide
theorem mB_eq : mB = Str.ofString "use of moved: x" := by decide
theorem mC_eq : mC = Str.ofString "assign twice: y" := by decide
def psTop (T1 T2 T3 f1 f2 f3 : Addr) : List Pr := [⟨T1, 2, f1, ⟨mA, Str.ofString "assign twice", 0, 144⟩⟩, ⟨T2, 2, f2, ⟨mB, Str.ofString "use of moved", 0, 144⟩⟩, ⟨T3, 1, f3, ⟨mC, Str.ofString "assign twice", 0, 144⟩⟩]
theorem top_once {T1 T2 T3 f1 f2 f3 : Addr} : OnceIx 3 (ksOf (psTop T1 T2 T3 f1 f2 f3)) [2, 0, 1] where
  srt := by
    have h1 : klt (ksOf (psTop T1 T2 T3 f1 f2 f3) 2) (ksOf (psTop T1 T2 T3 f1 f2 f3) 0) := .inl (show (1 : Int) < 2 by decide)
    have h2 : klt (ksOf (psTop T1 T2 T3 f1 f2 f3) 2) (ksOf (psTop T1 T2 T3 f1 f2 f3) 1) := .inl (show (1 : Int) < 2 by decide)
    have h3 : klt (ksOf (psTop T1 T2 T3 f1 f2 f3) 0) (ksOf (psTop T1 T2 T3 f1 f2 f3) 1) := .inr ⟨rfl, show mA.cps.toList < mB.cps.toList by decide⟩
    refine List.pairwise_cons.mpr ⟨fun a ha => ?_, List.pairwise_cons.mpr ⟨fun a ha => ?_, List.pairwise_singleton _ _⟩⟩
    · simp only [List.mem_cons, List.not_mem_nil, or_false] at ha
      rcases ha with rfl | rfl
      · exact h1
      · exact h2
    · rw [List.mem_singleton.mp ha]; exact h3
  mem := fun i hi => by
    have n1 : ¬ ((2 : Int) = 1) := by decide
    have n2 : ¬ ((1 : Int) = 2) := by decide
    have n3 : ¬ (mA = mB) := by decide
    have n4 : ¬ (mB = mA) := by decide
    simp only [List.mem_cons, List.not_mem_nil, or_false] at hi
    rcases hi with rfl | rfl | rfl
    · refine ⟨by decide, fun j hj e => ?_⟩
      match j, hj, e with
      | 0, _, e => exact absurd (show (2 : Int) = 1 from e.1) n1
      | 1, _, e => exact absurd (show (2 : Int) = 1 from e.1) n1
      | 2, _, _ => exact Nat.le_refl _
    · exact ⟨by decide, fun j hj e => Nat.zero_le _⟩
    · refine ⟨by decide, fun j hj e => ?_⟩
      match j, hj, e with
      | 0, _, e => exact absurd (show mA = mB from e.2) n3
      | 1, _, _ => exact Nat.le_refl _
      | 2, _, _ => exact Nat.le_succ _
  all := fun i hi => by
    match i, hi with
    | 0, _ => exact ⟨0, by decide, rfl, rfl⟩
    | 1, _ => exact ⟨1, by decide, rfl, rfl⟩
    | 2, _ => exact ⟨2, by decide, rfl, rfl⟩
theorem nodup_len : ∀ (n : Nat) (l : List Nat), l.Nodup → (∀ x ∈ l, x < n) → l.length ≤ n
  | 0, [], _, _ => Nat.le_refl _
  | 0, x :: _, _, h => absurd (h x (.head _)) (Nat.not_lt_zero _)
  | n + 1, l, hd, h => by
    have h1 := nodup_len n (l.erase n) (hd.erase n) fun x hx => by
      have := (List.Nodup.mem_erase_iff hd).mp hx
      have h2 := h x this.2
      have h3 : x ≠ n := this.1
      omega
    rw [List.length_erase] at h1
    split at h1 <;> omega
theorem OnceIx.len {n : Nat} {ks : Nat → Int × Str × Nat} {out : List Nat} (h : OnceIx n ks out) : out.length ≤ n := by
  refine nodup_len n out ?_ fun x hx => (h.mem x hx).1
  refine h.srt.imp fun {a b} hab e => ?_
  subst e
  exact hab.irr
theorem newsDup {h₀ h : Heap} {L : Addr} {l : List (Addr × Obj)} {x : Addr × Obj} (N : News h₀ L h l) (hx : x ∈ l) : News h₀ L h (x :: l) := fun p hp => by
  rcases List.mem_cons.mp hp with rfl | hp
  · exact N _ hx
  · exact N p hp
def MsgJ (ps : List Pr) (out : List Nat) (b7 : List (Addr × Obj)) (i : Nat) (ys : List Value) (nw : List (Addr × Obj)) : Prop :=
  b7 = nw ∧ ys.length = i ∧ ∀ (q : Nat) v k x, ys[q]? = some v → out[q]? = some k → ps[k]? = some x → ∃ t, v = .str x.d.msg t
end Mine
end

-- L1
section
open PySem PySem.W PySem.W.X PyProof.Rows PySem.Calls PySem.Spec
set_option Elab.async false
set_option maxRecDepth 100000
set_option maxHeartbeats 8000000
namespace Mine
section
set_option hygiene false in
local macro_rules | `(tactic| walk_at "eval Name") => `(tactic| ((with_reducible show wpAny _ _ (eval (Expr.Name (Str.ofString "script") _) (envOf _ _ _ _ _)) _ _ _); (rename Fr _ _ _ _ => lF9); k_dflt (refine nameX_L lF9 (by first | exact m1 | ((repeat (refine Eq.trans (if_neg (by decide)) ?_)); exact m1)) ?_)))
local macro_rules
  | `(tactic| walk_at "call ref") => `(tactic| (refine stop ?_))
  | `(tactic| walk_at "eval ListComp") => `(tactic| (refine stop ?_))
  | `(tactic| walk_at "exec For") => `(tactic| (refine stop ?_))
  | `(tactic| walk_at "exec For Name Call cons nil") => `(tactic| (refine stop ?_))
  | `(tactic| walk_at "pyIter ref") => `(tactic| (refine stop ?_))
  | `(tactic| walk_at "getAttr ref") => `(tactic| (refine stop ?_))
local macro_rules | `(tactic| walk_at "eval Name") => `(tactic| ((with_reducible show wpAny _ _ (eval (Expr.Name _ _) (compEnvC _ _ _ _)) _ _ _); refine stop ?_))
local macro_rules
  | `(tactic| walk_at "call builtin:list.append") => `(tactic| (refine stop ?_))
  | `(tactic| walk_at "call type:list") => `(tactic| (refine stop ?_))
local macro_rules | `(tactic| k_qdec) => `(tactic| decide +kernel)
local macro_rules | `(tactic| walk_at "compareOp NotEq ref ref") => `(tactic| (refine stop ?_))
theorem of_def {q : Program} {n : Str} {P : DefRec → List (Str × Expr) → Prop} {d0 : DefRec} {k0 : List (Str × Expr)} (h : defOf q n = some (d0, k0)) (x : P d0 k0) : ∀ d k, defOf q n = some (d, k) → P d k := fun d k e => by
  rw [h] at e
  cases e
  exact x
theorem len3 {α : Type} : ∀ ys : List α, ys.length = 3 → ∃ a b c, ys = [a, b, c]
  | [a, b, c], _ => ⟨a, b, c, rfl⟩
theorem eq_se {A : Around} {s : Shared} {k l : Str} {t u : Tok} (h : k = l) : SeqAt.EqAt A s (.str k t) (.str l u) true := h ▸ eq_ss k t u
theorem wt : ∀ d kwd, defOf VW "law" = some (d, kwd) → WalkO VW LO (XL VW []) (kHook topk.heap_1 as (fun _ => by kernel_rfl)).says PySem.Challenge.rw_ot0002_01.row.toRowW d kwd fun f vs => PySem.call f vs := by
  refine of_def (by rfl) ?_
  k_go0
  all_goals (try k_fold)
  k_steps
  delta Stop
  (rename Fr _ _ _ _ => aF)
  (rename News _ _ _ _ => aN)
  k_dflt (refine' borrow2_use ?a1 ?a2 aF ?a3 aN (by decide +kernel) (by decide +kernel) (by decide +kernel) (by decide +kernel) ?a5)
  case a1 => decide
  case a2 => decide
  case a3 => k_asm
  intro f1 dx1 tp1 h1 tk1 es1 n1 t11 t12 t13 bF bN bnew p1 p2 p3 p4
  clear aN aF
  k_steps
  delta Stop
  (rename Fr _ _ _ _ => cF)
  (rename News _ _ _ _ => cN)
  k_dflt (refine' borrow2_use ?b1 ?b2 cF ?b3 cN (by decide +kernel) (by decide +kernel) (by decide +kernel) (by decide +kernel) ?b5)
  case b1 => decide
  case b2 => decide
  case b3 => k_asm
  intro f2 dx2 tp2 h2 tk2 es2 n2 t21 t22 t23 dF dN dnew r1 r2 r3 r4
  clear cN cF
  k_steps
  delta Stop
  (rename Fr _ _ _ _ => eF)
  (rename News _ _ _ _ => eN)
  k_dflt (refine' borrow2_use ?c1 ?c2 eF ?c3 eN (by decide +kernel) (by decide +kernel) (by decide +kernel) (by decide +kernel) ?c5)
  case c1 => decide
  case c2 => decide
  case c3 => k_asm
  intro f3 dx3 tp3 h3 tk3 es3 n3 t31 t32 t33 fF fN fnew q1 q2 q3 q4
  clear eN eF
  k_steps
  delta Stop
  rename_i T1 _ lT1 T2 _ lT2 l _ ll _ T3 _ F9 N9 lT3
  have N8 := newsSub N9 (a := (l, listOf #[.ref T1, .ref T2] 0) :: [(T3, seqObj "tuple" #[.int 1 _, .ref f3] 0), (f3, excObj 155 dx3 tp3), (dx3, dictOf es3 n3), (T2, seqObj "tuple" #[.int 2 _, .ref f2] 0), (f2, excObj 155 dx2 tp2), (dx2, dictOf es2 n2), (T1, seqObj "tuple" #[.int 2 _, .ref f1] 0), (f1, excObj 155 dx1 tp1), (dx1, dictOf es1 n1)]) fun p hp => by
    revert p
    exact List.forall_mem_cons.mpr ⟨.tail _ (.tail _ (.tail _ (.head _))), List.forall_mem_cons.mpr ⟨.head _, List.forall_mem_cons.mpr ⟨.tail _ (.head _), List.forall_mem_cons.mpr ⟨.tail _ (.tail _ (.head _)), List.forall_mem_cons.mpr ⟨.tail _ (.tail _ (.tail _ (.tail _ (.head _)))), List.forall_mem_cons.mpr ⟨.tail _ (.tail _ (.tail _ (.tail _ (.tail _ (.head _))))), List.forall_mem_cons.mpr ⟨.tail _ (.tail _ (.tail _ (.tail _ (.tail _ (.tail _ (.head _)))))), List.forall_mem_cons.mpr ⟨.tail _ (.tail _ (.tail _ (.tail _ (.tail _ (.tail _ (.tail _ (.head _))))))), List.forall_mem_cons.mpr ⟨.tail _ (.tail _ (.tail _ (.tail _ (.tail _ (.tail _ (.tail _ (.tail _ (.head _)))))))), List.forall_mem_cons.mpr ⟨.tail _ (.tail _ (.tail _ (.tail _ (.tail _ (.tail _ (.tail _ (.tail _ (.tail _ (.head _))))))))), fun _ h => absurd h List.not_mem_nil⟩⟩⟩⟩⟩⟩⟩⟩⟩⟩
  clear N9
  have f3n := fnew (l, listOf #[.ref T1, .ref T2] 0) (.head _)
  refine append_K F9 N8 (Upd.head fun p hp => ?_) (fun h8 gF gN => ?_) (by show (2 : Nat) ≤ sizeLine; rw [sizeLine_eq]; decide)
  · obtain ⟨y1, y2, y3, y4, y5, y6⟩ := ll
    revert p
    exact List.forall_mem_cons.mpr ⟨Nat.ne_of_gt lT3.2.2.1, List.forall_mem_cons.mpr ⟨f3n.1.symm, List.forall_mem_cons.mpr ⟨f3n.2.symm, List.forall_mem_cons.mpr ⟨Nat.ne_of_lt y1, List.forall_mem_cons.mpr ⟨Nat.ne_of_lt y2, List.forall_mem_cons.mpr ⟨Nat.ne_of_lt y3, List.forall_mem_cons.mpr ⟨Nat.ne_of_lt y4, List.forall_mem_cons.mpr ⟨Nat.ne_of_lt y5, List.forall_mem_cons.mpr ⟨Nat.ne_of_lt y6, fun _ h => absurd h List.not_mem_nil⟩⟩⟩⟩⟩⟩⟩⟩⟩
  clear N8 F9
  k_steps
  delta Stop
  (rename Fr _ _ _ _ => gF)
  (rename News _ _ _ _ => gN)
  obtain ⟨rst, gN2, hps⟩ : ∃ r, News _ _ h8 ((l, seqObj "list" (refsOf (psTop T1 T2 T3 f1 f2 f3)).toArray 1) :: r) ∧ PairsIn r (psTop T1 T2 T3 f1 f2 f3) := by
    refine ⟨_, gN, fun x hx => ?_⟩
    unfold psTop at hx
    revert x
    refine List.forall_mem_cons.mpr ⟨?_, List.forall_mem_cons.mpr ⟨?_, List.forall_mem_cons.mpr ⟨?_, fun _ h => absurd h List.not_mem_nil⟩⟩⟩
    · exact ⟨⟨_, _, .tail _ (.tail _ (.tail _ (.tail _ (.tail _ (.tail _ (.head _))))))⟩, dx1, tp1, es1, n1, t11, t12, t13, .tail _ (.tail _ (.tail _ (.tail _ (.tail _ (.tail _ (.tail _ (.head _))))))), .tail _ (.tail _ (.tail _ (.tail _ (.tail _ (.tail _ (.tail _ (.tail _ (.head _)))))))), p1, p2, p3, p4⟩
    · exact ⟨⟨_, _, .tail _ (.tail _ (.tail _ (.head _)))⟩, dx2, tp2, es2, n2, t21, t22, t23, .tail _ (.tail _ (.tail _ (.tail _ (.head _)))), .tail _ (.tail _ (.tail _ (.tail _ (.tail _ (.head _))))), r1, r2, r3, r4⟩
    · exact ⟨⟨_, _, .head _⟩, dx3, tp3, es3, n3, t31, t32, t33, .tail _ (.head _), .tail _ (.tail _ (.head _)), q1, q2, q3, q4⟩
  clear gN f3n lT3 lT2 lT1 ll fnew dnew bnew q1 q2 q3 q4 r1 r2 r3 r4 p1 p2 p3 p4
  k_dflt (refine LCg.ListComp_U (x := Str.ofString "fault") (F₀ := by k_asm) (by rfl) (by with_unfolding_all decide) (by rfl) (by with_unfolding_all decide) (by rfl) ?_)
  k_steps
  delta Stop
  k_dflt (refine' once_spec ?d1 gF ?d2 ?d3 ?d4 ?d5 ?d6 gN2 hps ?d7 ?d8)
  case d1 => k_asm
  case d2 => k_asm
  case d3 => k_asm
  case d4 => exact rfl
  case d5 => ktr_room
  case d6 => ktr_units
  case d7 => (show (3 : Nat) ≤ 8); decide
  intro D c out h9 tk9 hon iF iN ilt
  have hout : out = [2, 0, 1] := hon.uniq top_once
  subst hout
  clear hon gN2 gF
  obtain ⟨b7, hb7⟩ : ∃ b, b = (D, listOf (List.map (faOf (psTop T1 T2 T3 f1 f2 f3)) [2, 0, 1]).toArray c) :: (l, seqObj "list" (refsOf (psTop T1 T2 T3 f1 f2 f3)).toArray 1) :: rst := ⟨_, rfl⟩
  have ml : (D, listOf (List.map (faOf (psTop T1 T2 T3 f1 f2 f3)) [2, 0, 1]).toArray c) ∈ b7 := by rw [hb7]; exact .head _
  have hpb : PairsIn b7 (psTop T1 T2 T3 f1 f2 f3) := by rw [hb7]; exact hps.mono fun p hp => .tail _ (.tail _ hp)
  rw [← hb7] at iN
  clear hps hb7 ilt
  have ho3 : ∀ k ∈ [2, 0, 1], k < (psTop T1 T2 T3 f1 f2 f3).length := by intro k hk; revert k hk; show ∀ k ∈ [2, 0, 1], k < 3; decide
  obtain ⟨ps, hpse⟩ : ∃ ps, ps = psTop T1 T2 T3 f1 f2 f3 := ⟨_, rfl⟩
  rw [← hpse] at ml hpb ho3
  obtain ⟨out, hout⟩ : ∃ o, o = [2, 0, 1] := ⟨_, rfl⟩
  have hol : out.length = 3 := by rw [hout]; rfl
  rw [← hout] at ml ho3
  have hsz : (out.map (faOf ps)).toArray.size = out.length := by simp
  refine LCg.CompSrc.ledger (by rfl) iF iN ml (by rw [hsz, hol, sizeLine_eq]; omega) fun g => ?_
  rw [hsz]
  refine compRest_of (n := out.length) (MsgJ ps out b7) ?step ?fin out.length 0 [] _ (by omega) ⟨rfl, rfl, fun _ _ _ _ h => by simp at h⟩
  case fin =>
    rintro ys nw ⟨rfl, hyl, hys⟩
    unfold LCg.FinE
    intro R h tk F N off
    k_steps
    delta Stop
    (rename Fr _ _ _ _ => jF)
    (rename News _ _ _ _ => jN)
    subst hout
    rw [hol] at hyl
    obtain ⟨v0, v1, v2, rfl⟩ := len3 ys hyl
    obtain ⟨ta, rfl⟩ := hys 0 v0 2 _ rfl rfl (by rw [hpse]; rfl)
    obtain ⟨tb, rfl⟩ := hys 1 v1 0 _ rfl rfl (by rw [hpse]; rfl)
    obtain ⟨tc, rfl⟩ := hys 2 v2 1 _ rfl rfl (by rw [hpse]; rfl)
    clear hys hyl hpb ho3 ml
    refine ne_lists_same (News.isList jN (.tail _ (.head _))) (News.isList jN (.head _)) rfl (by ktr_units) (eqC (eq_se mC_eq) (eqC (eq_se mA_eq) (eqC (eq_se mB_eq) eqN))) ?_
    have kN := newsSub jN (a := []) fun p hp => absurd hp List.not_mem_nil
    clear jN hpse
    k_steps
    delta Stop
    k_dflt (refine For_turns jF ?_)
    k_steps
    delta Stop
    rename_i hir F9 N9 _
    (rename List Int => ns)
    (rename Heap.IsList _ _ _ => hL)
    (rename IntsAre _ _ => hI)
    have hns : ns.length ≤ 63 := by omega
    obtain ⟨Bd, hB⟩ : ∃ Bd : Int, Bd = (if (if (ns.length : Int) < 2 then (ns.length : Int) else 2) > 1 then (if (ns.length : Int) < 2 then (ns.length : Int) else 2) else 1) := ⟨_, rfl⟩
    rw [← hB] at hir
    have hB1 : 1 ≤ Bd ∧ Bd ≤ 2 := by
      rw [hB]
      split <;> (try split) <;> omega
    clear hB
    refine iter_rangeTurns (n := Bd.toNat) (by rfl) F9 N9 hir (small_one (by omega) (by omega) (by omega) (by omega)) (by rw [rangeSize_nat]; simp) ?_
    intro I lI
    clear lI
    refine itemsRest_of (fun its mm nw => ∃ q : Nat, q ≤ Bd.toNat ∧ its = ((List.range Bd.toNat).drop q).map (fun (i : Nat) => Itm.tok (fun t => .int ((0 : Int) + (i : Int)) t)) ∧ nw = [] ∧ mm (Str.ofString "script") = some _) ?step2 ?fin2 _ _ _ ⟨0, Nat.zero_le _, rfl, rfl, rfl⟩
    case fin2 =>
      rintro mm nw' ⟨q, hq, e1, rfl, m1⟩ h' tk' F N
      k_steps
    case step2 =>
      rintro v0 rr mm nw' ⟨q, hq, e1, rfl, m1⟩ v h' tk' hv F oI hoI N
      have hqb : q < Bd.toNat := by
        rcases Nat.lt_or_ge q Bd.toNat with h | h
        · exact h
        · rw [List.drop_eq_nil_of_le (by simp; omega)] at e1; cases e1
      rw [drop_range hqb, List.map_cons] at e1
      injection e1 with e1 e1'
      subst e1
      obtain ⟨t, rfl⟩ := hv
      simp only [List.cons_append, List.nil_append] at N
      have e0 : (0 : Int) + (q : Int) = q := by omega
      dsimp only
      rw [e0]
      k_steps
      delta Stop
      (rename Fr _ _ _ _ => aF)
      (rename News _ _ _ _ => aN)
      k_dflt (refine' pool_spec ?g1 aF ?g2 ?g3 ?g4 ?g5 ?g6 ?g7 ?g8 aN hL hI hns ?g9 ?g10 ?g11)
      case g1 => k_asm
      case g2 => k_asm
      case g3 => k_asm
      case g4 => exact rfl
      case g5 => ktr_room
      case g6 => ktr_units
      case g7 => decide
      case g8 => decide
      case g9 => omega
      case g10 => omega
      intro src o1 h1 tk1 hs1 bF bN bne
      clear aF aN N F
      k_steps
      delta Stop
      (rename Fr _ _ _ _ => bF)
      (rename News _ _ _ _ => bN)
      k_dflt (refine' faults_spec ?i1 bF ?i2 ?i3 ?i4 ?i5 ?i6 ?i7 ?i8 bN bne hs1 ?i9)
      case i1 => k_asm
      case i2 => k_asm
      case i3 => k_asm
      case i4 => exact rfl
      case i5 => ktr_room
      case i6 => ktr_units
      case i7 => decide
      case i8 => decide
      intro D2 c2 ps2 o2 tl h2 tk2 hs2 hlen hpt hps cF cN cne
      clear bF bN bne
      k_steps
      delta Stop
      (rename Fr _ _ _ _ => cF)
      (rename News _ _ _ _ => cN)
      obtain ⟨b1, hb1, hps1, ms1, mD1, mI1⟩ : ∃ b, News _ _ _ b ∧ PairsIn b ps2 ∧ (src, o2) ∈ b ∧ (D2, listOf (refsOf ps2).toArray c2) ∈ b ∧ (I, oI) ∈ b := by
        refine ⟨_, cN, hps.mono fun p hp => .tail _ (.tail _ (List.mem_append_left _ hp)), .head _, .tail _ (.head _), .tail _ (.tail _ (List.mem_append_right _ (.head _)))⟩
      have hIs : (I, oI).1 ≠ src := cne (I, oI) (.tail _ (List.mem_append_right _ (.head _)))
      clear cN cne hps
      have hsz2 : (refsOf ps2).toArray.size ≤ sizeLine := by
        rw [List.size_toArray, refsOf, List.length_map, sizeLine_eq]; omega
      refine list_copyK cF hb1 (News.isList hb1 mD1) (fun D3 c3 h3 dF dN dlt => ?_) hsz2
      clear cF
      k_steps
      delta Stop
      (rename Fr _ _ _ _ => dF)
      (rename News _ _ _ _ => dN)
      have dN2 := newsDup dN (.tail _ mD1)
      k_dflt (refine' once_spec ?t1 dF ?t2 ?t3 ?t4 ?t5 ?t6 dN2 (hps1.mono fun p hp => .tail _ hp) hlen ?t7)
      case t1 => k_asm
      case t2 => k_asm
      case t3 => k_asm
      case t4 => exact rfl
      case t5 => ktr_room
      case t6 => ktr_units
      intro D4 c4 out h4 tk4 hon eF eN elt
      have hol := hon.len
      clear dN2 dN dF elt
      k_steps
      delta Stop
      (rename Fr _ _ _ _ => eF)
      (rename News _ _ _ _ => eN)
      k_dflt (refine' rows_spec ?u1 eF ?u2 ?u3 ?u4 ?u5 ?u6 eN (hps1.mono fun p hp => .tail _ (.tail _ hp)) (by omega) (fun k hk => (hon.mem k hk).1) ?u7)
      case u1 => k_asm
      case u2 => k_asm
      case u3 => k_asm
      case u4 => exact rfl
      case u5 => ktr_room
      case u6 => ktr_units
      intro R1 c5 ts1 tl1 h5 tk5 hts1 hrow1 fF fN
      clear eN eF
      k_steps
      delta Stop
      (rename Fr _ _ _ _ => fF)
      (rename News _ _ _ _ => fN)
      obtain ⟨b2, hb2, m1R, m1t, mb2, mD3⟩ : ∃ b, News _ _ _ b ∧ (R1, seqObj "list" (ts1.map Value.ref).toArray c5) ∈ b ∧ (∀ p ∈ tl1, p ∈ b) ∧ (∀ p ∈ b1, p ∈ b) ∧ (D3, listOf (refsOf ps2).toArray c3) ∈ b := by
        refine ⟨_, fN, .head _, fun p hp => .tail _ (List.mem_append_left _ hp), fun p hp => .tail _ (List.mem_append_right _ (.tail _ (.tail _ (.tail _ hp)))), .tail _ (List.mem_append_right _ (.tail _ (.tail _ (.head _))))⟩
      clear fN
      have gN2 := newsDup hb2 (mb2 _ mD1)
      k_dflt (refine' lonce_spec ?v1 fF ?v2 ?v3 ?v4 ?v5 ?v6 gN2 (hps1.mono mb2) hlen hpt ?v7)
      case v1 => k_asm
      case v2 => k_asm
      case v3 => k_asm
      case v4 => exact rfl
      case v5 => ktr_room
      case v6 => ktr_units
      intro D5 c6 out2 h6 tk6 hon2 gF gN glt
      have hoe : out2 = out := hon2.uniq hon
      subst hoe
      clear hb2 gN2 fF glt
      k_steps
      delta Stop
      (rename Fr _ _ _ _ => gF)
      (rename News _ _ _ _ => gN)
      k_dflt (refine' rows_spec ?w1 gF ?w2 ?w3 ?w4 ?w5 ?w6 gN (hps1.mono fun p hp => .tail _ (mb2 p hp)) (by omega) (fun k hk => (hon.mem k hk).1) ?w7)
      case w1 => k_asm
      case w2 => k_asm
      case w3 => k_asm
      case w4 => exact rfl
      case w5 => ktr_room
      case w6 => ktr_units
      intro R2 c7 ts2 tl2 h7 tk7 hts2 hrow2 kF kN
      clear gN gF
      k_steps
      delta Stop
      (rename Fr _ _ _ _ => kF)
      (rename News _ _ _ _ => kN)
      have mR1 := List.mem_append_right ((R2, seqObj "list" (ts2.map Value.ref).toArray c7) :: tl2) (List.mem_cons_of_mem (D5, listOf (out2.map (faOf ps2)).toArray c6) (List.mem_cons_of_mem (D2, seqObj "list" (refsOf ps2).toArray c2) m1R))
      have N1 := newsSub kN (a := tl1) fun p hp => List.mem_append_right _ (.tail _ (.tail _ (m1t p hp)))
      have N2 := newsSub kN (a := tl2) fun p hp => .tail _ (List.mem_append_left _ hp)
      refine ne_lists_same (News.isList kN mR1) (News.isList kN (.head _)) (by simp [hts1, hts2]) (by ktr_units) (fun j j1 j2 => ?_) ?_
      · have hj1 : j < ts1.length := by simpa using j1
        have hj2 : j < ts2.length := by simpa using j2
        have hj3 : j < out2.length := by omega
        have hk3 := (hon.mem _ (List.getElem_mem hj3)).1
        have e1 : (ts1.map Value.ref).toArray[j] = .ref ts1[j] := by simp
        have e2 : (ts2.map Value.ref).toArray[j] = .ref ts2[j] := by simp
        rw [e1, e2]
        exact rowT_eq N1 N2 (hrow1 j _ _ _ (List.getElem?_eq_getElem hj1) (List.getElem?_eq_getElem hj3) (List.getElem?_eq_getElem hk3)) (hrow2 j _ _ _ (List.getElem?_eq_getElem hj2) (List.getElem?_eq_getElem hj3) (List.getElem?_eq_getElem hk3)) (by ktr_units)
      have pN := newsSub kN (a := (D2, listOf (refsOf ps2).toArray c2) :: (D3, listOf (refsOf ps2).toArray c3) :: (src, o2) :: [(I, oI)]) fun p hp => by
        revert p
        refine List.forall_mem_cons.mpr ⟨?_, List.forall_mem_cons.mpr ⟨?_, List.forall_mem_cons.mpr ⟨?_, List.forall_mem_cons.mpr ⟨?_, fun _ h => absurd h List.not_mem_nil⟩⟩⟩⟩
        · exact List.mem_append_right _ (.tail _ (.tail _ (mb2 _ mD1)))
        · exact List.mem_append_right _ (.tail _ (.tail _ mD3))
        · exact List.mem_append_right _ (.tail _ (.tail _ (mb2 _ ms1)))
        · exact List.mem_append_right _ (.tail _ (.tail _ (mb2 _ mI1)))
      clear N1 N2 kN mR1 hrow1 hrow2
      k_steps
      delta Stop
      (rename Fr _ _ _ _ => pF)
      (rename News _ _ _ _ => pN)
      refine ne_lists_same (News.isList pN (.head _)) (News.isList pN (.tail _ (.head _))) rfl (by ktr_units) (fun j j1 j2 => SeqAt.EqAt.same _) ?_
      have qN := newsSub pN (a := (src, o2) :: [(I, oI)]) fun p hp => .tail _ (.tail _ hp)
      clear pN
      k_steps
      delta Stop
      (rename Fr _ _ _ _ => pF)
      (rename News _ _ _ _ => qN)
      k_dflt (refine' errors_spec ?z1 pF ?z2 ?z3 ?z4 ?z5 ?z6 ?z7 ?z8 qN (fun p hp => by rw [List.mem_singleton.mp hp]; exact hIs) hs2 ?z9)
      case z1 => k_asm
      case z2 => k_asm
      case z3 => k_asm
      case z4 => exact rfl
      case z5 => ktr_room
      case z6 => ktr_units
      case z7 => decide
      case z8 => decide
      intro o3 h8 tk8 hs3 rF rN
      clear qN pF
      k_steps
      (rename Fr _ _ _ _ => rF)
      (rename News _ _ _ _ => rN)
      refine ⟨_, _, _, [], rfl, rF, newsSub rN fun p hp => .tail _ hp, fun r hr => absurd hr List.not_mem_nil, trivial, q + 1, hqb, e1', rfl, ?_⟩
      (repeat (refine Eq.trans (if_neg (by decide)) ?_))
      exact m1
  case step =>
    rintro i ys nw hi ⟨rfl, hyl, hys⟩ v I oI C oC D2 m₂ h tk E' hv hC hx F N off ne
    have hk1 := ho3 _ (List.getElem_mem hi)
    have hfa : faOf ps out[i] = .ref ps[out[i]].f := faOf_at (List.getElem?_eq_getElem hk1)
    have hv2 : v = .ref ps[out[i]].f := by
      have h1 : (out.map (faOf ps)).toArray[i]? = some (faOf ps out[i]) := by simp [hi]
      rw [h1] at hv
      rw [← hfa]; exact (Option.some.inj hv).symm
    subst hv2
    obtain ⟨_, dx, tp, es, n8, t1, t2, t3, mf, md, g1, g2, g3, g4⟩ := hpb _ (List.getElem_mem hk1)
    k_steps
    delta Stop
    refine LCgL.ld_own N (.tail _ (.head _)) hC hx ?_
    k_steps
    delta Stop
    refine exc_attr (exc155 _) F (by assumption) N (.tail _ (.tail _ (.tail _ mf))) (.tail _ (.tail _ (.tail _ md))) (exc155 _).msg g1 rfl ?_
    k_steps
    refine LCg.CompEnd.intro F N b7 (fun p hp => hp) off (.inr ⟨_, ml, rfl, _, rfl⟩) ⟨rfl, by simp [hyl], ?_⟩
    intro q v k x hq hk9 hx9
    by_cases hqi : q < ys.length
    · rw [List.getElem?_append_left hqi] at hq
      exact hys q v k x hq hk9 hx9
    · have := (List.getElem?_eq_some_iff.mp hq).1
      rw [List.length_append, List.length_singleton] at this
      have hqe : q = ys.length := by omega
      rw [hqe, List.getElem?_append_right (by omega), Nat.sub_self] at hq
      rw [hqe, hyl, List.getElem?_eq_getElem hi] at hk9
      have h2 : out[i] = k := Option.some.inj hk9
      subst h2
      rw [List.getElem?_eq_getElem hk1] at hx9
      have h3 : ps[out[i]] = x := Option.some.inj hx9
      subst h3
      exact ⟨_, by simpa using hq.symm⟩
end
end Mine
end

-- Z0
section
open PySem PySem.W PySem.W.X PyProof.Rows
set_option Elab.async false
set_option maxRecDepth 100000
set_option maxHeartbeats 0
namespace Mine
namespace hd0
theorem tw16463593755247147200 : True := trivial
theorem tw17327177587765197472 : True := trivial
theorem tw12949994812025541312 : True := trivial
theorem tw6595308224653121280 : True := trivial
theorem tw8956842816214484832 : True := trivial
theorem tw9802666196054454208 : True := trivial
theorem tw12267492742709321793 : True := trivial
theorem tw906593335335552129 : True := trivial
theorem tw1277909223561221377 : True := trivial
theorem tw13396925332426190305 : True := trivial
theorem tw13800483763300068865 : True := trivial
theorem tw2510589942101626497 : True := trivial
theorem tw11510660921149772417 : True := trivial
theorem tw18353199073579788961 : True := trivial
theorem tw10260036693505685281 : True := trivial
theorem tw10009543501162359617 : True := trivial
theorem tw11573459230172034977 : True := trivial
theorem tw13774004877433310113 : True := trivial
theorem tw17564057355376757762 : True := trivial
theorem tw9126222054196385890 : True := trivial
theorem tw15478791486184338690 : True := trivial
theorem tw10834066803405267298 : True := trivial
theorem tw7026590804218146370 : True := trivial
theorem tw2860899101727606338 : True := trivial
theorem tw4983706646000405154 : True := trivial
theorem tw14069131116232622754 : True := trivial
theorem tw10542246809792872130 : True := trivial
theorem tw7970355855660570498 : True := trivial
theorem tw14943190808241422403 : True := trivial
theorem tw444321031296666723 : True := trivial
theorem tw10297934492154968163 : True := trivial
theorem tw309277354587492579 : True := trivial
theorem tw1967676767884184963 : True := trivial
theorem tw15732471572782726531 : True := trivial
theorem tw11296317026604976579 : True := trivial
theorem tw11856145978303915523 : True := trivial
theorem tw12171479601555845635 : True := trivial
theorem tw8785302206795578915 : True := trivial
theorem tw666637029103987267 : True := trivial
theorem tw15960652031959596643 : True := trivial
theorem tw10749667027505106531 : True := trivial
theorem tw8913561755670897571 : True := trivial
theorem tw13008693350213662659 : True := trivial
theorem tw10796719196466866147 : True := trivial
theorem tw5366906053448781924 : True := trivial
theorem tw3233326631691786436 : True := trivial
theorem tw13130983519766148356 : True := trivial
theorem tw9427267770115083556 : True := trivial
theorem tw10566386253777865092 : True := trivial
theorem tw10991023720358251972 : True := trivial
theorem tw1673108226327096836 : True := trivial
theorem tw10702419455615826468 : True := trivial
theorem tw4301605040222552612 : True := trivial
theorem tw13860332498241106628 : True := trivial
theorem tw10763176690372330244 : True := trivial
theorem tw12042970921518469988 : True := trivial
theorem tw16255563409837272293 : True := trivial
theorem tw18416291653570748741 : True := trivial
theorem tw3647629822860100997 : True := trivial
theorem tw12782906062734576069 : True := trivial
theorem tw839443794188527141 : True := trivial
theorem tw3771890792122485445 : True := trivial
theorem tw17011805984709885637 : True := trivial
theorem tw3198289665323921157 : True := trivial
theorem tw17018938808108061734 : True := trivial
theorem tw2338661219346607142 : True := trivial
theorem tw539940733940218950 : True := trivial
theorem tw15149792934537033894 : True := trivial
theorem tw16427158468746511654 : True := trivial
theorem tw14597221797996980582 : True := trivial
theorem tw891186494875849158 : True := trivial
theorem tw15726108546692610502 : True := trivial
theorem tw16356745440860276358 : True := trivial
theorem tw17087212701041150630 : True := trivial
theorem tw10046214379172474726 : True := trivial
theorem tw2128425038151221735 : True := trivial
theorem tw2080979622161356455 : True := trivial
theorem tw7236157760442490695 : True := trivial
theorem tw5677135109947497480 : True := trivial
theorem tw18270030083883611432 : True := trivial
theorem tw7826759426205029736 : True := trivial
theorem tw17998732546299578792 : True := trivial
theorem tw8472709252117196360 : True := trivial
theorem tw13545224959385804456 : True := trivial
theorem tw14693713190999327560 : True := trivial
theorem tw15005460686244068168 : True := trivial
theorem tw5487660210450000937 : True := trivial
theorem tw14469414521783600489 : True := trivial
theorem tw1280484567907817961 : True := trivial
theorem tw179991387133551241 : True := trivial
theorem tw3404567561779638057 : True := trivial
theorem tw13932984963572511754 : True := trivial
theorem tw10783142842391291914 : True := trivial
theorem tw12118671535382520970 : True := trivial
theorem tw4539016668912386218 : True := trivial
theorem tw10176971302787931466 : True := trivial
theorem tw5484117130419629514 : True := trivial
theorem tw9239670224111219178 : True := trivial
theorem tw14861641958691549802 : True := trivial
theorem tw6663726501131112074 : True := trivial
theorem tw12665113834384165610 : True := trivial
theorem tw4582842965409387306 : True := trivial
theorem tw14708056100453182282 : True := trivial
theorem tw12151319272224551882 : True := trivial
theorem tw1189054894648436682 : True := trivial
theorem tw6014977574509414443 : True := trivial
theorem tw14751195016474515691 : True := trivial
theorem tw7808699968346434859 : True := trivial
theorem tw14904662328650720587 : True := trivial
theorem tw8575195297261919627 : True := trivial
theorem tw4958161400511572651 : True := trivial
theorem tw3361144743427637995 : True := trivial
theorem tw3465554795787012971 : True := trivial
theorem tw5873444610005042059 : True := trivial
theorem tw14730913642774411147 : True := trivial
theorem tw16594580601805772844 : True := trivial
theorem tw8284464484006228044 : True := trivial
theorem tw7780578511632693420 : True := trivial
theorem tw5353220722972676460 : True := trivial
theorem tw5721069425725921740 : True := trivial
theorem tw6304940225609730636 : True := trivial
theorem tw241197298611353260 : True := trivial
theorem tw15675528710725479212 : True := trivial
theorem tw4837166207565515596 : True := trivial
theorem tw15728283652489511788 : True := trivial
theorem tw2920931838809075660 : True := trivial
theorem tw7359261033328424013 : True := trivial
theorem tw5099789754451425677 : True := trivial
theorem tw15429971745270200749 : True := trivial
theorem tw12056577157831287533 : True := trivial
theorem tw901327545473398541 : True := trivial
theorem tw4116054870980984685 : True := trivial
theorem tw2280702184356970510 : True := trivial
theorem tw5173078720295292078 : True := trivial
theorem tw9915369828831269134 : True := trivial
theorem tw14502001302391087502 : True := trivial
theorem tw4562695010225406382 : True := trivial
theorem tw15129630465062437422 : True := trivial
theorem tw15783581761236437582 : True := trivial
theorem tw1450596053491749582 : True := trivial
theorem tw10893015288667660014 : True := trivial
theorem tw2202114373748815983 : True := trivial
theorem tw4663038693165263023 : True := trivial
theorem tw9526941815458186415 : True := trivial
theorem tw11249123509674406191 : True := trivial
theorem tw5592874710671989167 : True := trivial
theorem tw14574581053450234351 : True := trivial
theorem tw9385747698160950831 : True := trivial
theorem tw18134629352650391119 : True := trivial
theorem tw1904828551985836751 : True := trivial
theorem tw11532703464391966607 : True := trivial
theorem tw14139502865228493775 : True := trivial
theorem tw3466419429004618768 : True := trivial
theorem tw18098247460298835536 : True := trivial
theorem tw3525650266765315696 : True := trivial
theorem tw11837375871785574032 : True := trivial
theorem tw7237386881181516464 : True := trivial
theorem tw1087435185961119440 : True := trivial
theorem tw14183295790607132400 : True := trivial
theorem tw11772256920040780592 : True := trivial
theorem tw1176053044683504432 : True := trivial
theorem tw8052174542758884176 : True := trivial
theorem tw7415385052924869713 : True := trivial
theorem tw18430945745249023057 : True := trivial
theorem tw1597637715128213681 : True := trivial
theorem tw17043531303389682065 : True := trivial
theorem tw12457655390460550545 : True := trivial
theorem tw5223386943819690705 : True := trivial
theorem tw8907265306392417265 : True := trivial
theorem tw5009392681941405746 : True := trivial
theorem tw3801753739915242578 : True := trivial
theorem tw12784123285358203314 : True := trivial
theorem tw474916242839058 : True := trivial
theorem tw6643238626148955698 : True := trivial
theorem tw12003068471920674386 : True := trivial
theorem tw1779554380871787090 : True := trivial
theorem tw14198383729236097778 : True := trivial
theorem tw7895234915340226546 : True := trivial
theorem tw2569187405292475378 : True := trivial
theorem tw17132104802792603634 : True := trivial
theorem tw2093440984422149139 : True := trivial
theorem tw1830908064365640755 : True := trivial
theorem tw2732253915798935635 : True := trivial
theorem tw9846644877726163059 : True := trivial
theorem tw5244145174254350547 : True := trivial
theorem tw4505414625599408467 : True := trivial
theorem tw10950015098503667 : True := trivial
theorem tw12433639513536989715 : True := trivial
theorem tw14341870401148061235 : True := trivial
theorem tw11119462899506271795 : True := trivial
theorem tw12933303735471307315 : True := trivial
theorem tw12407471169438301300 : True := trivial
theorem tw3640104315449746964 : True := trivial
theorem tw8016032594811649588 : True := trivial
theorem tw5429866549726478036 : True := trivial
theorem tw15621366761432239028 : True := trivial
theorem tw8412496611741829076 : True := trivial
theorem tw7746724291664459861 : True := trivial
theorem tw18310740603297040469 : True := trivial
theorem tw12762130728611697813 : True := trivial
theorem tw7731734453053413589 : True := trivial
theorem tw17605128147998923189 : True := trivial
theorem tw8464541185895156213 : True := trivial
theorem tw4192044030403024501 : True := trivial
theorem tw9454721371543059285 : True := trivial
theorem tw1078058097833363317 : True := trivial
theorem tw17763732069537761205 : True := trivial
theorem tw15906527000910458869 : True := trivial
theorem tw8053029068741257462 : True := trivial
theorem tw14210159926740337751 : True := trivial
theorem tw11064160589316715639 : True := trivial
theorem tw14364967241312749879 : True := trivial
theorem tw13155985672576599351 : True := trivial
theorem tw17828249871568911703 : True := trivial
theorem tw18132021507681513943 : True := trivial
theorem tw8437564595239901655 : True := trivial
theorem tw13555123127346715575 : True := trivial
theorem tw12482913051474129847 : True := trivial
theorem tw5851460317537991607 : True := trivial
theorem tw3563376653281826072 : True := trivial
theorem tw3149825195295114616 : True := trivial
theorem tw12281760368372384568 : True := trivial
theorem tw1601430817000102872 : True := trivial
theorem tw10299701338536963064 : True := trivial
theorem tw7609028302745033977 : True := trivial
theorem tw1423734868612448729 : True := trivial
theorem tw6785096124254761465 : True := trivial
theorem tw1817164187568313849 : True := trivial
theorem tw208745692366851961 : True := trivial
theorem tw16577491470658047865 : True := trivial
theorem tw16871336801076393977 : True := trivial
theorem tw7579484373256523769 : True := trivial
theorem tw1359104647744391194 : True := trivial
theorem tw8066634004926191738 : True := trivial
theorem tw1405133032699174042 : True := trivial
theorem tw7576472563558473914 : True := trivial
theorem tw8708807820475274586 : True := trivial
theorem tw8503028519756171898 : True := trivial
theorem tw1958745321591857818 : True := trivial
theorem tw16057218211864961754 : True := trivial
theorem tw3687841886611527418 : True := trivial
theorem tw1347409029562170106 : True := trivial
theorem tw11017282251955597146 : True := trivial
theorem tw13969635912206726010 : True := trivial
theorem tw7079748053240274874 : True := trivial
theorem tw4509526690794525690 : True := trivial
theorem tw4550181199752876123 : True := trivial
theorem tw10121685255857489051 : True := trivial
theorem tw13407135678810255579 : True := trivial
theorem tw10992540420993761691 : True := trivial
theorem tw11290458816937975323 : True := trivial
theorem tw6302951332473218875 : True := trivial
theorem tw17524989057665669244 : True := trivial
theorem tw8004311016551517532 : True := trivial
theorem tw4345986799964169788 : True := trivial
theorem tw1144143789490447932 : True := trivial
theorem tw11218070709191035516 : True := trivial
theorem tw14727694407236729852 : True := trivial
theorem tw3968613266054771741 : True := trivial
theorem tw5364393782896679965 : True := trivial
theorem tw18078784917974338621 : True := trivial
theorem tw3778994487876593789 : True := trivial
theorem tw12014350970595483805 : True := trivial
theorem tw5476550517563732157 : True := trivial
theorem tw5336939312866089149 : True := trivial
theorem tw650764759088172349 : True := trivial
theorem tw17740978816696070813 : True := trivial
theorem tw12782592981888142045 : True := trivial
theorem tw13333579491729134397 : True := trivial
theorem tw7493280530175958909 : True := trivial
theorem tw14397348241044380734 : True := trivial
theorem tw7288751869163876638 : True := trivial
theorem tw1700567991170962110 : True := trivial
theorem tw17965875459906211518 : True := trivial
theorem tw15543821095186356926 : True := trivial
theorem tw7721425996154828510 : True := trivial
theorem tw2431039718480141022 : True := trivial
theorem tw7647748658271166302 : True := trivial
theorem tw13143500989680652158 : True := trivial
theorem tw1191622958437496830 : True := trivial
theorem tw15233396900245208191 : True := trivial
theorem tw2863537065255238847 : True := trivial
theorem tw6649401386675659039 : True := trivial
theorem tw2919583234286436895 : True := trivial
theorem tw7937780131228529215 : True := trivial
theorem tw14905831658627392255 : True := trivial
theorem tw3266406419910276204 : True := trivial
theorem tw13277021490868829545 : True := trivial
theorem tw10680434171561145614 : True := trivial
theorem tw399271199164518798 : True := trivial
theorem tw1136605475683262021 : True := trivial
theorem tw8270569564782688562 : True := trivial
theorem tw16745005354979320155 : True := trivial
theorem tw12960006043329843515 : True := trivial
theorem tw8409005472956427911 : True := trivial
end hd0
set_option Elab.async true in
theorem hd0 : PySem.Challenge.rw_ot0002_01.Holds := by
  o_law
  o_head (kHook topk.heap_1 as (fun _ => by kernel_rfl))
  case hw => w_witness2
  exact wt _ _ rfl
theorem top_law : PySem.Challenge.rw_ot0002_01.Holds := hd0
end Mine
end

theorem PySem.Challenge.cw_ot0002_01_holds : PySem.Challenge.rw_ot0002_01.Holds := by
  exact Mine.top_law
