import PyProof.Rows.All
import Wide.All
import OpenK.AllK
import Wide.FinOn
import Lean
import PySem.Challenge.RW_pc0359_01
set_option Elab.async false
section
open PySem PySem.W PyProof.Rows
namespace Mine
set_option maxRecDepth 100000 in
set_option maxHeartbeats 8000000 in
open_top hd for PySem.Challenge.rw_pc0359_01
end Mine
end
section
open PySem PySem.W PySem.Calls PyProof.Rows
set_option maxRecDepth 100000
namespace Mine

/-- what a call of the text's own does to the ledger -/
def Claim (w : World) (k : Nat) (f : Addr) (vs : List Value) (news : List (Addr × Obj)) (Ret : Value → List (Addr × Obj) → Prop) : Prop :=
  ∀ (mean : ExcName → Option Value) (mg mb : Str → Option Value) (dp un : Nat) (gd : Option (List Code)) (cn : Str) (cs : Scope) (a : Addr) (ccd : Value) (cl : List (Str × Addr)) (outer : List Env) (A₀ : Around) (base h₀ : Heap) (L : Addr) (m : Str → Option Value) (s : Shared) (Q E : Value → Shared → Prop),
    Below A₀ base outer h₀ → Fr h₀ L s.heap m → (hd.heap_39 w.params).In h₀ → News h₀ L s.heap news → Top hd.view_39 (looseW hd.view_39 [Str.ofString "SettingError"]) mean mg mb h₀ → cs.kind = .function →
    dp + k < recursionLimit → un + 8 * k < cLine →
    (∀ r news' h' tk', Ret r news' → Fr h₀ L h' m → News h₀ L h' news' → Q r { s with heap := h', toks := tk' }) →
      wpAny (model PySem.Challenge.rw_pc0359_01.row.prog w) (ktrTop dp un gd cn cs L a ccd cl outer) (call (.ref f) vs) Q E s

end Mine
end
section
open PySem PySem.W PySem.Calls PyProof.Rows
namespace Mine

def shareF (low high most level : Int) : Int :=
  if level ≤ low then 0 else if level ≥ high then 10000 else (most * (level - low)).fdiv (high - low)

def shG (low high most level : Int) (l : List Int) (k : Int) : List Int := if k * (high - low) ≤ most * (level - low) then l ++ [k] else l
theorem shG_grows (low high most level : Int) : KPfGrows (shG low high most level) := by
  intro l k
  unfold shG
  split <;> simp

theorem rangeKs_succ (n : Nat) : rangeKs 0 (n + 1) = rangeKs 0 n ++ [(n : Int)] := by
  simp [rangeKs, List.range_succ]

theorem shG_fold {low high most level q : Int} (hd : low < high) (hq : q = (most * (level - low)).fdiv (high - low)) (h0 : 0 ≤ q) (n : Nat) :
    (rangeKs 0 n).foldl (shG low high most level) [] = rangeKs 0 (min n (q + 1).toNat) := by
  induction n with
  | zero => simp [rangeKs]
  | succ n ih =>
    rw [rangeKs_succ, List.foldl_append, ih]
    simp only [List.foldl_cons, List.foldl_nil]
    have key : ((n : Int) * (high - low) ≤ most * (level - low)) ↔ (n : Int) ≤ q := by
      rw [hq, Int.fdiv_eq_ediv_of_nonneg _ (by omega)]
      exact (Int.le_ediv_iff_mul_le (by omega)).symm
    unfold shG
    by_cases h : (n : Int) ≤ q
    · rw [if_pos (key.mpr h)]
      have e1 : min n (q + 1).toNat = n := by omega
      have e2 : min (n + 1) (q + 1).toNat = n + 1 := by omega
      rw [e1, e2, rangeKs_succ]
    · rw [if_neg (fun x => h (key.mp x))]
      have e1 : min n (q + 1).toNat = min (n + 1) (q + 1).toNat := by omega
      rw [e1]

theorem share_q {low high most level : Int} (h1 : low < level) (h2 : level < high) (h3 : 0 ≤ most) :
    0 ≤ (most * (level - low)).fdiv (high - low) ∧ (most * (level - low)).fdiv (high - low) ≤ most := by
  rw [Int.fdiv_eq_ediv_of_nonneg _ (by omega)]
  constructor
  · exact Int.ediv_nonneg (Int.mul_nonneg h3 (by omega)) (by omega)
  · have h : most * (level - low) ≤ most * (high - low) := Int.mul_le_mul_of_nonneg_left (by omega) h3
    calc most * (level - low) / (high - low) ≤ most * (high - low) / (high - low) := Int.ediv_le_ediv (by omega) h
      _ = most := Int.mul_ediv_cancel _ (by omega)

theorem share_last {low high most level : Int} (h1 : low < level) (h2 : level < high) (h3 : 0 ≤ most) :
    0 < ((rangeKs 0 (most + 1 - 0).toNat).foldl (shG low high most level) []).length ∧
    ((rangeKs 0 (most + 1 - 0).toNat).foldl (shG low high most level) []).getD ((-1 : Int) + (((rangeKs 0 (most + 1 - 0).toNat).foldl (shG low high most level) []).length : Nat)).toNat 0 = (most * (level - low)).fdiv (high - low) := by
  obtain ⟨q0, q1⟩ := share_q h1 h2 h3
  rw [shG_fold (q := (most * (level - low)).fdiv (high - low)) (by omega) rfl q0]
  generalize (most * (level - low)).fdiv (high - low) = q at *
  have e : min (most + 1 - 0).toNat (q + 1).toNat = q.toNat + 1 := by omega
  rw [e, rangeKs_length]
  refine ⟨by omega, ?_⟩
  have e2 : ((-1 : Int) + ((q.toNat + 1 : Nat) : Int)).toNat = q.toNat := by omega
  rw [e2, rangeKs_succ, List.getD_eq_getElem?_getD, List.getElem?_append_right (by rw [rangeKs_length]; exact Nat.le_refl _), rangeKs_length]
  simp
  omega
end Mine
end
section
open PySem PySem.W PySem.Calls PyProof.Rows
namespace Mine

/-- a comprehension whose element turns the ledger -/
def CsEl {σ : Type} (Led : σ → List (Addr × Obj)) (J : σ → List Int → Prop) (l : List Int) (y : Value) (news' : List (Addr × Obj)) : Prop :=
  ∃ (c' : σ) (a : Int) (t : Tok), news' = Led c' ∧ y = .int a t ∧ J c' (l ++ [a])
theorem comp_state {prog : Program} {w : World} {A : Around} {h₀ : Heap} {L : Addr} {m : Str → Option Value} {env : Env} {elt : Expr} {x : Str} {scope : Scope} {cl : List (Str × Addr)} {s : Shared} {S : List (Addr × Obj) → Prop} {P : Nat → Value → Prop} {Fin : List Value → List (Addr × Obj) → Prop}
    {σ : Type} {n : Nat} (Led : σ → List (Addr × Obj)) (J : Nat → σ → List Int → Prop)
    (turn : ∀ i v c l ys I oI C oC D m₂ h tk (E' : Value → Shared → Prop), i < n → P i v → J i c l → IntsAre ys l → LCg.NsObj oC m₂ → m₂ x = some v → Fr h₀ L h m → News h₀ L h ((I, oI) :: (C, oC) :: (D, LCg.lst ys) :: Led c) → LCg.Off3 I C D (Led c) → ((@Ne Nat I C) ∧ (@Ne Nat I D) ∧ (@Ne Nat C D)) →
      wpAny (model prog w) A (eval elt (compEnvC scope cl C env)) (LCg.CompEnd h₀ L m { s with heap := h, toks := tk } I oI C oC D (LCg.lst ys) S (fun y news' => CsEl Led (J (i + 1)) l y news')) E' { s with heap := h, toks := tk })
    (fin : ∀ c l ys, J n c l → IntsAre ys l → Fin ys (Led c)) (c₀ : σ) (hj : J 0 c₀ []) : LCg.CompRest prog w A h₀ L m env elt x scope cl s S P Fin n 0 [] (Led c₀) := by
  have key : ∀ (j i : Nat) (ys : List Value) (c : σ) (l : List Int), i + j = n → J i c l → IntsAre ys l → LCg.CompRest prog w A h₀ L m env elt x scope cl s S P Fin j i ys (Led c) := by
    intro j
    induction j with
    | zero =>
      intro i ys c l hi hJ hy
      have e : i = n := by omega
      subst e
      exact LCg.CompRest.zero (fin c l ys hJ hy)
    | succ j ih =>
      intro i ys c l hi hJ hy
      refine LCg.CompRest.succ ?_
      intro v I oI C oC D m₂ h tk E' hv hC hx F N off ne
      refine wpAny_mono (turn i v c l ys I oI C oC D m₂ h tk E' (by omega) hv hJ hy hC hx F N off ne) (fun y s₂ hq => ?_) fun _ _ e => e
      obtain ⟨h', tk', nw, e, F', N', off', hS, c', a, t, hn, hy', hJ'⟩ := hq
      subst hn
      refine ⟨h', tk', _, e, F', N', off', hS, ?_⟩
      rw [hy']
      exact ih (i + 1) _ c' _ (by omega) hJ' (IntsAre.append hy (.cons a t .nil))
  exact key n 0 [] c₀ [] (by omega) hj .nil

def avgStep (sh p level : Int) : Int := p + level - p.fdiv (2 ^ sh.toNat)
def avgVal (sh p : Int) : Int := p.fdiv (2 ^ sh.toNat)
def avgIter (sh level p : Int) : Nat → Int
  | 0 => p
  | i + 1 => avgStep sh (avgIter sh level p i) level
def avgOuts (sh level p : Int) (n : Nat) : List Int := (List.range n).map fun i => avgVal sh (avgIter sh level p (i + 1))
theorem avgOuts_succ (sh level p : Int) (n : Nat) : avgOuts sh level p (n + 1) = avgOuts sh level p n ++ [avgVal sh (avgIter sh level p (n + 1))] := by
  simp [avgOuts, List.range_succ]
theorem avgOuts_length (sh level p : Int) (n : Nat) : (avgOuts sh level p n).length = n := by simp [avgOuts]

theorem pow_cases {sh : Int} (h0 : 0 ≤ sh) (h1 : sh < 4) : (2 : Int) ^ sh.toNat = 1 ∨ (2 : Int) ^ sh.toNat = 2 ∨ (2 : Int) ^ sh.toNat = 4 ∨ (2 : Int) ^ sh.toNat = 8 := by
  have : sh = 0 ∨ sh = 1 ∨ sh = 2 ∨ sh = 3 := by omega
  rcases this with rfl | rfl | rfl | rfl <;> decide

/-- between nought and the top: the parts stay in their bounds -/
theorem avg_bounds {sh p level M : Int} (h0 : 0 ≤ sh) (h1 : sh < 4) (hp : 0 ≤ p) (hM : p < (M + 1) * 2 ^ sh.toNat) (hl : 0 ≤ level) (hl' : level ≤ M) :
    0 ≤ avgStep sh p level ∧ avgStep sh p level < (M + 1) * 2 ^ sh.toNat := by
  unfold avgStep
  rcases pow_cases h0 h1 with e | e | e | e <;> rw [e] at hM ⊢ <;> rw [Int.fdiv_eq_ediv_of_nonneg _ (by decide)] <;> constructor <;> omega
theorem avgVal_bounds {sh p M : Int} (h0 : 0 ≤ sh) (h1 : sh < 4) (hp : 0 ≤ p) (hM : p < (M + 1) * 2 ^ sh.toNat) : 0 ≤ avgVal sh p ∧ avgVal sh p ≤ M := by
  unfold avgVal
  rcases pow_cases h0 h1 with e | e | e | e <;> rw [e] at hM ⊢ <;> rw [Int.fdiv_eq_ediv_of_nonneg _ (by decide)] <;> constructor <;> omega

theorem avgIter_bounds {sh level p : Int} (h0 : 0 ≤ sh) (h1 : sh < 4) (hp : 0 ≤ p) (hp' : p < 10) (hl : 0 ≤ level) (hl' : level < 10) (i : Nat) : 0 ≤ avgIter sh level p i ∧ avgIter sh level p i < 10 * 2 ^ sh.toNat := by
  induction i with
  | zero =>
    unfold avgIter
    rcases pow_cases h0 h1 with e | e | e | e <;> rw [e] <;> constructor <;> omega
  | succ i ih =>
    have := avg_bounds (M := 9) h0 h1 ih.1 ih.2 hl (by omega)
    exact this

/-- the road to the level -/
theorem avgStep_up {sh p level : Int} (h0 : 0 ≤ sh) (h1 : sh < 4) (hp : 0 ≤ p) (h : avgVal sh p ≤ level) :
    avgVal sh (avgStep sh p level) ≤ level ∧ p ≤ avgStep sh p level ∧ (avgVal sh p < level → p < avgStep sh p level) := by
  unfold avgVal avgStep at *
  rcases pow_cases h0 h1 with e | e | e | e <;> rw [e] at h ⊢ <;> (repeat rw [Int.fdiv_eq_ediv_of_nonneg _ (by decide)] at *) <;> refine ⟨?_, ?_, ?_⟩ <;> omega
theorem avgStep_down {sh p level : Int} (h0 : 0 ≤ sh) (h1 : sh < 4) (hp : 0 ≤ p) (h : level ≤ avgVal sh p) :
    level ≤ avgVal sh (avgStep sh p level) ∧ avgStep sh p level ≤ p ∧ (level < avgVal sh p → avgStep sh p level < p) := by
  unfold avgVal avgStep at *
  rcases pow_cases h0 h1 with e | e | e | e <;> rw [e] at h ⊢ <;> (repeat rw [Int.fdiv_eq_ediv_of_nonneg _ (by decide)] at *) <;> refine ⟨?_, ?_, ?_⟩ <;> omega
theorem avgVal_mono {sh p q : Int} (h0 : 0 ≤ sh) (h1 : sh < 4) (h : p ≤ q) : avgVal sh p ≤ avgVal sh q := by
  unfold avgVal
  rcases pow_cases h0 h1 with e | e | e | e <;> rw [e] <;> (repeat rw [Int.fdiv_eq_ediv_of_nonneg _ (by decide)] at *) <;> omega
end Mine
end
section
open PySem PySem.W PySem.Spec PySem.Calls PyProof.Rows PyProof.Rows.LCg
set_option maxRecDepth 100000
namespace Mine

abbrev ZSt (z TI TO i1 i2 l1 l2 : Addr) (xs ys : Array Value) (i : Nat) (h : Heap) : Prop :=
  IsZip h z TI TO .none ∧ IsPair h TI (.ref i1) (.ref i2) ∧ (∃ a b, IsPair h TO a b) ∧ h.IsListIter i1 l1 i ∧ h.IsListIter i2 l2 i ∧ h.IsList l1 xs ∧ h.IsList l2 ys

section
variable {prog : Program} {w : World} {A : Around} {E : Value → Shared → Prop} {h₀ : Heap} {L : Addr} {m : Str → Option Value} {env : Env}

/-- the block of a comprehension over two lists zipped, whose element only looks -/
theorem zc_block {elt iter : Expr} {xa xb : Str} {pa pb tp : Pos} {kk : Nat} {scope : Scope} {cl : List (Str × Addr)} {pos : Pos} {s₂ : Shared} {z TI TO i1 i2 l1 l2 : Addr} {xs ys : Array Value} {G : Nat → Value} {news : List (Addr × Obj)}
    {RR : Value → Addr → Result → Shared → Prop} (hh : A.handled = none) (AP : ZipApart z TI TO i1 i2 l1 l2) (hsz : min xs.size ys.size ≤ sizeLine)
    (hcell : ∀ y ∈ scope.names, y.2 ≠ .cell) (hkind : scope.kind = .function) (hxa : scope.names.lookup xa = some .local) (hxb : scope.names.lookup xb = some .local) (hab : ¬ xa = xb)
    (hst : ZSt z TI TO i1 i2 l1 l2 xs ys 0 s₂.heap) (F : Fr h₀ L s₂.heap m) (N : News h₀ L s₂.heap news)
    (hwr : ∀ b ∈ [z, TO, i1, i2], b ≠ L ∧ h₀.get? b = none ∧ ∀ p ∈ news, p.1 ≠ b)
    (turn : ∀ i a b C m₂ h tk E', xs[i]? = some a → ys[i]? = some b → h.Ns C m₂ → m₂ xa = some a → m₂ xb = some b →
      wpAny (model prog w) A (eval elt (compEnvC scope cl C env)) (fun y s' => y = G i ∧ ∃ tk', s' = { s₂ with heap := h, toks := tk' }) E' { s₂ with heap := h, toks := tk })
    (hRR : ∀ D C h tk m', Fr h₀ L h m → News h₀ L h ((D, lst ((List.range (min xs.size ys.size)).map G)) :: news) → Off1 D news → h.Ns C m' → h₀.get? C = none → C ≠ L → C ≠ D → (∀ p ∈ news, p.1 ≠ C) → RR (.ref D) C (.ok .next) { s₂ with heap := h, toks := tk }) :
    wpAny (model prog w) A (newList []) (fun acc s₃ => wpAny (model prog w) A (newFunctionEnv scope env.globals cl [] env.qual none .none (some env)) (fun cenv s₄ =>
      codeAny (model prog w) A (.compStart (.ListComp elt [⟨.Tuple [.Name xa pa, .Name xb pb] kk tp, iter, [], 0⟩] scope pos) 0 (.ref z) acc { cenv with scope := relabel scope env }) (RR acc cenv.locals) s₄) E s₃) E s₂ := by
  refine wpAny_newObj_type (wpAny_newFunctionEnv hcell (by intro y hy; simp at hy) (fun h₁ hns₁ hsb₁ => ?_) hkind)
  dsimp only at hns₁ hsb₁ ⊢
  generalize hH2 : s₂.heap.push { cls := .type "list", dict := none, data := .seq ([] : List Value).toArray } = H2 at hns₁ hsb₁ ⊢
  generalize hD : s₂.heap.objs.size = D at *
  have hC : H2.objs.size = D + 1 := by rw [← hH2, Heap.size_push, hD]
  generalize hCe : H2.objs.size = C at *
  have hDC : D ≠ C := by rw [hC]; exact Nat.ne_of_lt (Nat.lt_succ_self _)
  have ltD : ∀ {b o}, s₂.heap.get? b = some o → b < D := fun e => hD ▸ Heap.lt_size e
  have neD : ∀ {b}, b < D → b ≠ D ∧ b ≠ C := fun hb => ⟨Nat.ne_of_lt hb, by rw [hC]; exact Nat.ne_of_lt (Nat.lt_succ_of_lt hb)⟩
  have old : ∀ b o, s₂.heap.get? b = some o → h₁.get? b = some o := fun b o e => hsb₁.extBut b o (neD (ltD e)).2 (Heap.get?_push_of_some _ (hH2 ▸ Heap.get?_push_of_some _ e))
  have hacc : h₁.get? D = some (lst []) := hsb₁.extBut _ _ hDC (Heap.get?_push_of_some _ (by rw [← hH2, ← hD]; exact Heap.get?_push_size _ rfl))
  have fresh₀ : ∀ a, D ≤ a → h₀.get? a = none := fun a ha => by
    cases e : h₀.get? a with
    | none => rfl
    | some o' => exact absurd (ltD (F.keep a o' e)) (Nat.not_lt.mpr ha)
  have hD₀ : h₀.get? D = none := fresh₀ _ (Nat.le_refl _)
  have hC₀ : h₀.get? C = none := fresh₀ _ (by rw [hC]; exact Nat.le_succ _)
  have hLlt : L < D := hD ▸ F.ns.lt
  have hDL : D ≠ L := Ne.symm (neD hLlt).1
  have hCL : C ≠ L := Ne.symm (neD hLlt).2
  have W := WalksT.zip2 (prog := prog) (w := w) hh z TI TO i1 i2 l1 l2 AP xs ys
  have hfp : ∀ b ∈ [z, TI, TO, i1, i2, l1, l2], b < D := by
    obtain ⟨a1, a2, ⟨_, _, a3⟩, ⟨_, a4, _⟩, ⟨_, a5, _⟩, ⟨_, a6, _⟩, ⟨_, a7, _⟩⟩ := hst
    intro b hb
    simp only [List.mem_cons, List.not_mem_nil, or_false] at hb
    rcases hb with rfl | rfl | rfl | rfl | rfl | rfl | rfl
    · exact ltD a1
    · exact ltD a2
    · exact ltD a3
    · exact ltD a4
    · exact ltD a5
    · exact ltD a6
    · exact ltD a7
  have hwD : ∀ b ∈ [z, TO, i1, i2], b ≠ D ∧ b ≠ C := fun b hb => neD (hfp b (W.sub b hb))
  have offD : ∀ p ∈ news, p.1 ≠ D ∧ p.1 ≠ C := fun p hp => neD (ltD (N p hp).1)
  have loop : ∀ s₃ : Shared, s₃ = { s₂ with heap := h₁, toks := s₂.toks + ([] : List (Str × Value)).length } →
      codeAny (model prog w) A (.compLoop (.ListComp elt [⟨.Tuple [.Name xa pa, .Name xb pb] kk tp, iter, [], 0⟩] scope pos) 0 (.ref z) (.ref D) (compEnvC scope cl C env)) (RR (.ref D) C) s₃ := by
    rintro s₃ rfl
    refine kcp_loop
      (fun k s' => ∃ h' tk i m', s' = { s₂ with heap := h', toks := tk } ∧ i ≤ min xs.size ys.size ∧ k = min xs.size ys.size + 1 - i ∧ ZSt z TI TO i1 i2 l1 l2 xs ys i h' ∧ Fr h₀ L h' m ∧ h'.Ns C m' ∧ News h₀ L h' ((D, lst ((List.range i).map G)) :: news))
      ?_ (min xs.size ys.size + 1) ⟨h₁, _, 0, _, rfl, Nat.zero_le _, rfl, W.frame _ _ _ hst fun b _ o e => old b o e, F.keeps old, hns₁, fun p hp => ?_⟩
    · rintro k s' ⟨h', tk, i, m', rfl, hi, rfl, hst', F', hn', N'⟩
      by_cases hlt : i < min xs.size ys.size
      · refine W.item i _ _ _ hlt hst' fun T vals h₂ tk₂ hP hTs hT hMd hk₂ => ?_
        refine W.go _ _ _ i T _ _ _ hMd fun h₃ hst₃ hk₃ => ?_
        obtain ⟨x, y, hx, hy, rfl⟩ := hP
        have hTw := W.apart i T _ hMd
        have up₃ : ∀ c o, c ∉ [z, TO, i1, i2] → h'.get? c = some o → h₃.get? c = some o := fun c o hc e => hk₃ c o hc (hk₂ c o hc e)
        have hT₃ : h₃.IsTuple T #[x, y] := hT.at fun o e => hk₃ T o hTw e
        have hCw : C ∉ [z, TO, i1, i2] := fun hm => (hwD C hm).2 rfl
        have hDw : D ∉ [z, TO, i1, i2] := fun hm => (hwD D hm).1 rfl
        refine kcp_assign (env := compEnvC scope cl C env) hh hT₃ (lookup_relabel_local hxa) (lookup_relabel_local hxb) (by simp [compEnvC, relabel, hkind]) (hn'.at' fun o e => up₃ _ o hCw e) fun h₄ tk₄ hn₄ hs₄ => ?_
        have up : ∀ c o, c ∉ [z, TO, i1, i2] → c ≠ C → h'.get? c = some o → h₄.get? c = some o := fun c o h1 h2 e => hs₄ c o h2 (up₃ c o h1 e)
        have hst₄ : ZSt z TI TO i1 i2 l1 l2 xs ys (i + 1) h₄ := W.frame _ _ _ hst₃ fun b hb o e => hs₄ b o (neD (hfp b hb)).2 e
        refine wpAny_mono (turn i x y C _ h₄ tk₄ _ hx hy hn₄ (by simp [hab]) (by simp)) (fun v s₅ hv => ?_) fun _ _ e => e
        obtain ⟨rfl, tk₅, rfl⟩ := hv
        have zD : h₄.get? D = some (lst ((List.range i).map G)) := up D _ hDw hDC (N' _ List.mem_cons_self).1
        refine append_at (hsz := by show ((List.range i).map G).toArray.size ≤ sizeLine; rw [List.size_toArray, List.length_map, List.length_range]; omega) zD fun h₆ hs₆ hD₆ => ?_
        have up₆ : ∀ c o, c ∉ [z, TO, i1, i2] → c ≠ C → c ≠ D → h'.get? c = some o → h₆.get? c = some o := fun c o h1 h2 h3 e => hs₆.extBut c o h3 (up c o h1 h2 e)
        have notw : ∀ {c}, (∀ b ∈ [z, TO, i1, i2], c ≠ b) → c ∉ [z, TO, i1, i2] := fun hc hm => hc _ hm rfl
        refine ⟨min xs.size ys.size + 1 - (i + 1), by omega, h₆, tk₅, i + 1, _, rfl, hlt, rfl, W.frame _ _ _ hst₄ fun b hb o e => hs₆.extBut b o (neD (hfp b hb)).1 e, ?_, hn₄.at' fun o e => hs₆.extBut C o (Ne.symm hDC) e, fun p hp => ?_⟩
        · refine ⟨F'.ns.at' fun o e => up₆ L o (notw fun b hb => Ne.symm (hwr b hb).1) (Ne.symm hCL) (Ne.symm hDL) e, fun c o e => ?_, F'.above⟩
          refine up₆ c o (notw fun b hb q => ?_) (fun q => ?_) (fun q => ?_) (F'.keep c o e)
          · rw [q, (hwr b hb).2.1] at e; cases e
          · rw [q, hC₀] at e; cases e
          · rw [q, hD₀] at e; cases e
        · rcases List.mem_cons.mp hp with rfl | hp
          · refine ⟨hD₆.trans ?_, hDL, hD₀⟩
            have e1 : (List.range (i + 1)).map G = (List.range i).map G ++ [G i] := by rw [List.range_succ, List.map_append]; rfl
            rw [e1]
            have e2 := lst_snoc ((List.range i).map G) (G i)
            exact congrArg some e2
          · have z' := N' p (List.mem_cons_of_mem _ hp)
            exact ⟨up₆ _ _ (notw fun b hb => (hwr b hb).2.2 p hp) (offD p hp).2 (offD p hp).1 z'.1, z'.2⟩
      · obtain rfl : i = min xs.size ys.size := Nat.le_antisymm hi (Nat.not_lt.mp hlt)
        refine W.done _ _ _ hst' fun h₂ tk₂ hk₂ => ?_
        have notw : ∀ {c}, (∀ b ∈ [z, TO, i1, i2], c ≠ b) → c ∉ [z, TO, i1, i2] := fun hc hm => hc _ hm rfl
        refine hRR D C h₂ tk₂ _ ⟨F'.ns.at' fun o e => hk₂ L o (notw fun b hb => Ne.symm (hwr b hb).1) e, fun c o e => hk₂ c o (notw fun b hb q => by rw [q, (hwr b hb).2.1] at e; cases e) (F'.keep c o e), F'.above⟩ (fun p hp => ?_)
          ?_ (hn'.at' fun o e => hk₂ _ o (fun hm => (hwD C hm).2 rfl) e) hC₀ hCL (Ne.symm hDC) fun p hp => (offD p hp).2
        · have z' := N' p hp
          refine ⟨hk₂ _ _ (notw fun b hb => ?_) z'.1, z'.2⟩
          rcases List.mem_cons.mp hp with rfl | hp
          · exact Ne.symm (hwD b hb).1
          · exact (hwr b hb).2.2 p hp
        · have go : ∀ l : List (Addr × Obj), (∀ p ∈ l, p.1 ≠ D) → Off1 D l := by
            intro l
            induction l with
            | nil => intro _; trivial
            | cons p r ih => intro hl; exact ⟨hl p (.head _), ih fun q hq => hl q (.tail _ hq)⟩
          exact go _ fun p hp => (offD p hp).1
    · rcases List.mem_cons.mp hp with rfl | hp
      · exact ⟨hacc, hDL, hD₀⟩
      · exact ⟨old _ _ (N p hp).1, (N p hp).2⟩
  have hst₁ : ZSt z TI TO i1 i2 l1 l2 xs ys 0 h₁ := W.frame _ _ _ hst fun b _ o e => old b o e
  have fin := codeAny_compStart_list (elt := elt) (rest := []) (scope := scope) (pos := pos) (loop _ rfl) (W.self 0 _ _ _ hst₁ (loop _ rfl))
  exact fin

def ZipSrc (prog : Program) (w : World) (A : Around) (h₀ : Heap) (L : Addr) (m : Str → Option Value) (env : Env) (elt : Expr) (xa xb y : Str) (scope : Scope) (cl : List (Str × Addr)) (Q : Flow → Shared → Prop) (v : Value) (s₁ : Shared) : Prop :=
  ∃ (z TI TO i1 i2 l1 l2 : Addr) (xs ys : Array Value) (G : Nat → Value) (news : List (Addr × Obj)), v = .ref z ∧ A.handled = none ∧ ZipApart z TI TO i1 i2 l1 l2 ∧ min xs.size ys.size ≤ sizeLine ∧ ZSt z TI TO i1 i2 l1 l2 xs ys 0 s₁.heap ∧ Fr h₀ L s₁.heap m ∧ News h₀ L s₁.heap news ∧
    (∀ b ∈ [z, TO, i1, i2], b ≠ L ∧ h₀.get? b = none ∧ ∀ p ∈ news, p.1 ≠ b) ∧
    (∀ i a b C m₂ h tk E', xs[i]? = some a → ys[i]? = some b → h.Ns C m₂ → m₂ xa = some a → m₂ xb = some b →
      wpAny (model prog w) A (eval elt (compEnvC scope cl C env)) (fun y s' => y = G i ∧ ∃ tk', s' = { s₁ with heap := h, toks := tk' }) E' { s₁ with heap := h, toks := tk }) ∧
    ∀ D h tk, Fr h₀ L h (fun q => if q = y then some (.ref D) else m q) → News h₀ L h ((D, lst ((List.range (min xs.size ys.size)).map G)) :: news) → Off1 D news → Q .next { s₁ with heap := h, toks := tk }

theorem Assign_zc {s : Shared} {elt iter : Expr} {xa xb y : Str} {pa pb tp py : Pos} {kk : Nat} {scope : Scope} {cl : List (Str × Addr)} {pos spos : Pos} {Q : Flow → Shared → Prop} (F₀ : Fr h₀ L s.heap m) (hLe : env.locals = L)
    (hsw : swapsWith (.ListComp elt [⟨.Tuple [.Name xa pa, .Name xb pb] kk tp, iter, [], 0⟩] scope pos) (some (.Name y py)) spos.line env = pure true)
    (hclos : closureFor scope env = pure cl) (hcell : ∀ z ∈ scope.names, z.2 ≠ .cell) (hkind : scope.kind = .function)
    (hnames : ∀ z ∈ scope.names, z.2 = .local → scope.names.lookup z.1 = some .local) (hxa : scope.names.lookup xa = some .local) (hxb : scope.names.lookup xb = some .local) (hab : ¬ xa = xb)
    (hy : env.kindOf y = some .local) (hp : (env.scope.kind == .class || (env.scope.kind == .module && env.locals != env.globals)) = false)
    (h : wpAny (model prog w) A (eval iter env) (ZipSrc prog w A h₀ L m env elt xa xb y scope cl Q) E s)
    (hs : ∀ x, foldedSetIterable iter env x = pure x := by intro _; rfl) :
    wpAny (model prog w) A (exec (.Assign [.Name y py] (.ListComp elt [⟨.Tuple [.Name xa pa, .Name xb pb] kk tp, iter, [], 0⟩] scope pos) spos) env) Q E s := by
  subst hLe
  rw [exec_Assign_Name_used _ _ _ _ hsw]
  refine wpAny_bind (wpAny_standAt (wpAny_bind ?_))
  show wpAny _ A (do let _ ← comprehension (.ListComp elt [⟨.Tuple [.Name xa pa, .Name xb pb] kk tp, iter, [], 0⟩] scope pos) scope env _ (newList []) false (eval iter env) (some (assign (.Name y py) env))) _ _ s
  refine wpAny_bind (wpAny_mono (wpAny_comprehension_free (use := some (assign (.Name y py) env)) (Q := fun _ s' => Q .next s') rfl hs hclos hkind hnames
    (wpAny_mono h (fun xv s₁ h₁ => ?_) fun _ _ e => e)) (fun _ s' hq => wpAny_pure (wpAny_pure hq)) fun _ _ e => e)
  obtain ⟨z, TI, TO, i1, i2, l1, l2, xs, ys, G, news, rfl, hh, AP, hsz, hst, F, N, hwr, turn, fin⟩ := h₁
  refine wpAny_pyIter_zip hst.1 ?_
  refine zc_block hh AP hsz hcell hkind hxa hxb hab hst F N hwr turn ?_
  intro D C h' tk m' F' N' o1 hn hC₀ hCL hCD offC
  show wpAny _ A (assign (.Name y py) env (.ref D)) _ _ _
  refine wpAny_assign_Name (wpAny_storeName_local hy F'.ns (fun h₂ hn₂ hs₂ => ?_) hp)
  have hL₀ : h₀.get? env.locals = none := Heap.get?_none_of_le F'.above
  have F₂ : Fr h₀ env.locals h₂ (fun z => if z = y then some (.ref D) else m z) := ⟨hn₂, fun b o e => hs₂.extBut b o (fun q => by rw [q, hL₀] at e; cases e) (F'.keep b o e), F'.above⟩
  refine ⟨m', hn.sameBut hs₂ hCL, fun h'' hs'' => fin D h'' _ (F₂.change hs'' hCL hC₀) (fun p hp => ?_) o1⟩
  have z' : h₂.get? p.1 = some p.2 := hs₂.extBut _ _ (N' p hp).2.1 (N' p hp).1
  refine ⟨hs''.extBut _ _ ?_ z', (N' p hp).2⟩
  rcases List.mem_cons.mp hp with rfl | hp
  · exact Ne.symm hCD
  · exact offC p hp

theorem zip_src {s : Shared} {elt : Expr} {xa xb y : Str} {scope : Scope} {cl : List (Str × Addr)} {Q : Flow → Shared → Prop} {l1 l2 : Addr} {vs1 vs2 : List Value} {n1 n2 : Nat} (G : Nat → Value) {news : List (Addr × Obj)} (hh : A.handled = none)
    (F : Fr h₀ L s.heap m) (N : News h₀ L s.heap news) (h1 : (l1, PySem.W.listOf vs1.toArray n1) ∈ news) (h2 : (l2, PySem.W.listOf vs2.toArray n2) ∈ news) (hsz : vs1.length ≤ 1000)
    (turn : ∀ i a b C m₂ h tk E', vs1[i]? = some a → vs2[i]? = some b → h.Ns C m₂ → m₂ xa = some a → m₂ xb = some b →
      wpAny (model prog w) A (eval elt (compEnvC scope cl C env)) (fun y s' => y = G i ∧ ∃ tk', s' = { s with heap := h, toks := tk' }) E' { s with heap := h, toks := tk })
    (fin : ∀ D h tk, Fr h₀ L h (fun q => if q = y then some (.ref D) else m q) → News h₀ L h ((D, lst ((List.range (min vs1.length vs2.length)).map G)) :: news) → Off1 D news → Q .next { s with heap := h, toks := tk }) :
    wpAny (model prog w) A (call (.type "zip") [.ref l1, .ref l2]) (ZipSrc prog w A h₀ L m env elt xa xb y scope cl Q) E s := by
  have hl1 : s.heap.IsList l1 vs1.toArray := ⟨_, (N _ h1).1, rfl, _, rfl⟩
  have hl2 : s.heap.IsList l2 vs2.toArray := ⟨_, (N _ h2).1, rfl, _, rfl⟩
  refine zip_rows F hl1 hl2 fun h' z TI TO i1 i2 AP hst F' hk b1 b2 b3 b4 hL => ?_
  have hN : News h₀ L h' news := fun p hp => ⟨hk _ _ (N p hp).1, (N p hp).2⟩
  refine ⟨z, TI, TO, i1, i2, l1, l2, _, _, G, news, rfl, hh, AP, ?_, hst, F', hN, ?_, fun i a b C m₂ h tk E' ha hb => turn i a b C m₂ h tk E' (by simpa using ha) (by simpa using hb), fun D h tk => ?_⟩
  · simp only [List.size_toArray]
    rw [PySem.sizeLine_eq]
    omega
  · intro b hb
    have key : s.heap.objs.size ≤ b ∧ L < b := by
      simp only [List.mem_cons, List.not_mem_nil, or_false] at hb
      rcases hb with rfl | rfl | rfl | rfl
      · exact ⟨b1, hL.1⟩
      · exact ⟨b2, hL.2.1⟩
      · exact ⟨b3, hL.2.2.1⟩
      · exact ⟨b4, hL.2.2.2⟩
    refine ⟨Nat.ne_of_gt key.2, ?_, fun p hp => Nat.ne_of_lt (Nat.lt_of_lt_of_le (Heap.lt_size (N p hp).1) key.1)⟩
    cases e : h₀.get? b with
    | none => rfl
    | some o' => exact absurd (Heap.lt_size (F.keep b o' e)) (Nat.not_lt.mpr key.1)
  · have := fin D h tk
    simpa only [List.size_toArray] using this

theorem zc_le {s : Shared} {pos : Pos} {la lb : Str} {pa pb : Pos} {scope : Scope} {cl : List (Str × Addr)} {C : Addr} {m₂ : Str → Option Value} {a b : Int} {ta tb : Tok} {Q : Value → Shared → Prop} (hn : s.heap.Ns C m₂) (ha : m₂ la = some (.int a ta)) (hb : m₂ lb = some (.int b tb))
    (h : Q (.bool (decide (a ≤ b))) s)
    (hk : (compEnvC scope cl C env).scope.kind = .function := by rfl) (h1 : (compEnvC scope cl C env).kindOf la = some .local := by rfl) (h2 : (compEnvC scope cl C env).kindOf lb = some .local := by rfl) (d1 : (la == ("__debug__" : Str)) = false := by decide) (d2 : (lb == ("__debug__" : Str)) = false := by decide) :
    wpAny (model prog w) A (eval (.Compare (.Name la pa) [.LtE] [.Name lb pb] pos) (compEnvC scope cl C env)) Q E s :=
  wpAny_Compare1 (ldVarK (F := hn) (hv := ha) (ldVarK (F := hn) (hv := hb) (PyProof.Rows.le_int h) hk h2 d2) hk h1 d1)
theorem zc_ge {s : Shared} {pos : Pos} {la lb : Str} {pa pb : Pos} {scope : Scope} {cl : List (Str × Addr)} {C : Addr} {m₂ : Str → Option Value} {a b : Int} {ta tb : Tok} {Q : Value → Shared → Prop} (hn : s.heap.Ns C m₂) (ha : m₂ la = some (.int a ta)) (hb : m₂ lb = some (.int b tb))
    (h : Q (.bool (decide (b ≤ a))) s)
    (hk : (compEnvC scope cl C env).scope.kind = .function := by rfl) (h1 : (compEnvC scope cl C env).kindOf la = some .local := by rfl) (h2 : (compEnvC scope cl C env).kindOf lb = some .local := by rfl) (d1 : (la == ("__debug__" : Str)) = false := by decide) (d2 : (lb == ("__debug__" : Str)) = false := by decide) :
    wpAny (model prog w) A (eval (.Compare (.Name la pa) [.GtE] [.Name lb pb] pos) (compEnvC scope cl C env)) Q E s :=
  wpAny_Compare1 (ldVarK (F := hn) (hv := ha) (ldVarK (F := hn) (hv := hb) (PyProof.Rows.ge_int h) hk h2 d2) hk h1 d1)
end
end Mine
end
section
open PySem PySem.W PySem.Calls PyProof.Rows
namespace Mine

structure ComesOk (level : Int) (n : Nat) (ol : List Int) : Prop where
  len : ol.length = n
  two : 2 ≤ n
  small : n ≤ 200
  last : ol.getD ((-1 : Int) + (ol.length : Nat)).toNat 0 = level
  way : (∀ i, i + 1 < n → ol.getD i 0 ≤ ol.getD (i + 1) 0) ∨ (∀ i, i + 1 < n → ol.getD (i + 1) 0 ≤ ol.getD i 0)

theorem outs_get {sh level p : Int} {n i : Nat} (h : i < n) : (avgOuts sh level p n).getD i 0 = avgVal sh (avgIter sh level p (i + 1)) := by
  simp [avgOuts, List.getD, h]

theorem comesOk {sh level p : Int} {n : Nat} (h0 : 0 ≤ sh) (h1 : sh < 4) (hp : 0 ≤ p) (hp' : p < 10) (hl : 0 ≤ level) (hl' : level < 10) (hn : (n : Int) = 10 * 2 ^ sh.toNat + 2) : ComesOk level n (avgOuts sh level p n) := by
  have hc := pow_cases h0 h1
  have hb := avgIter_bounds h0 h1 hp hp' hl hl'
  have two : 2 ≤ n := by omega
  have lastEq : ∀ {v}, avgVal sh (avgIter sh level p n) = v → (avgOuts sh level p n).getD ((-1 : Int) + ((avgOuts sh level p n).length : Nat)).toNat 0 = v := by
    intro v hv
    rw [avgOuts_length]
    have e : ((-1 : Int) + (n : Nat)).toNat = n - 1 := by omega
    rw [e, outs_get (by omega), show n - 1 + 1 = n by omega]
    exact hv
  rcases Int.le_total (avgVal sh p) level with hle | hle
  · -- from below
    have inv : ∀ i, avgVal sh (avgIter sh level p i) ≤ level ∧ ((i : Int) ≤ avgIter sh level p i ∨ avgVal sh (avgIter sh level p i) = level) ∧ avgIter sh level p i ≤ avgIter sh level p (i + 1) := by
      intro i
      induction i with
      | zero =>
        have := avgStep_up (level := level) h0 h1 hp hle
        exact ⟨hle, .inl hp, this.2.1⟩
      | succ i ih =>
        obtain ⟨a1, a2, a3⟩ := ih
        have s1 := avgStep_up (level := level) h0 h1 (hb i).1 a1
        have b1 : avgVal sh (avgIter sh level p (i + 1)) ≤ level := s1.1
        have s2 := avgStep_up (level := level) h0 h1 (hb (i + 1)).1 b1
        refine ⟨b1, ?_, s2.2.1⟩
        by_cases hq : avgVal sh (avgIter sh level p i) < level
        · have lt : avgIter sh level p i < avgIter sh level p (i + 1) := s1.2.2 hq
          rcases a2 with a2 | a2
          · left; omega
          · omega
        · right
          have := avgVal_mono h0 h1 a3
          omega
    refine ⟨avgOuts_length .., two, by omega, lastEq ?_, .inl fun i hi => ?_⟩
    · obtain ⟨a1, a2, _⟩ := inv n
      rcases a2 with a2 | a2
      · exact absurd (hb n).2 (by omega)
      · exact a2
    · rw [outs_get (by omega), outs_get hi]
      exact avgVal_mono h0 h1 (inv (i + 1)).2.2
  · -- from above
    have inv : ∀ i, level ≤ avgVal sh (avgIter sh level p i) ∧ (avgIter sh level p i ≤ 9 - (i : Int) ∨ avgVal sh (avgIter sh level p i) = level) ∧ avgIter sh level p (i + 1) ≤ avgIter sh level p i := by
      intro i
      induction i with
      | zero =>
        have := avgStep_down (level := level) h0 h1 hp hle
        refine ⟨hle, .inl ?_, this.2.1⟩
        show p ≤ 9 - ((0 : Nat) : Int)
        omega
      | succ i ih =>
        obtain ⟨a1, a2, a3⟩ := ih
        have s1 := avgStep_down (level := level) h0 h1 (hb i).1 a1
        have b1 : level ≤ avgVal sh (avgIter sh level p (i + 1)) := s1.1
        have s2 := avgStep_down (level := level) h0 h1 (hb (i + 1)).1 b1
        refine ⟨b1, ?_, s2.2.1⟩
        by_cases hq : level < avgVal sh (avgIter sh level p i)
        · have lt : avgIter sh level p (i + 1) < avgIter sh level p i := s1.2.2 hq
          rcases a2 with a2 | a2
          · left; omega
          · omega
        · right
          have := avgVal_mono h0 h1 a3
          omega
    refine ⟨avgOuts_length .., two, by omega, lastEq ?_, .inr fun i hi => ?_⟩
    · obtain ⟨a1, a2, _⟩ := inv n
      rcases a2 with a2 | a2
      · have := (hb n).1
        omega
      · exact a2
    · rw [outs_get hi, outs_get (show i < n by omega)]
      exact avgVal_mono h0 h1 (inv (i + 1)).2.2
end Mine
end
section
open PySem PySem.W PySem.Spec PySem.Calls PyProof.Rows PyProof.Rows.LCg
set_option maxRecDepth 100000
namespace Mine

def leAt (ol : List Int) (i : Nat) : Bool := decide (ol.getD i 0 ≤ ol.getD (i + 1) 0)
def geAt (ol : List Int) (i : Nat) : Bool := decide (ol.getD (i + 1) 0 ≤ ol.getD i 0)

theorem comes_end {level : Int} {n : Nat} {ol : List Int} (h : ComesOk level n ol) {k : Nat} (hk : k + 1 ≤ n) : (List.range k).all (leAt ol) = true ∨ (List.range k).all (geAt ol) = true := by
  rcases h.way with q | q
  · left
    rw [List.all_eq_true]
    intro i hi
    have := List.mem_range.mp hi
    exact decide_eq_true (q i (by omega))
  · right
    rw [List.all_eq_true]
    intro i hi
    have := List.mem_range.mp hi
    exact decide_eq_true (q i (by omega))

theorem ints_at {vs : List Value} {ns : List Int} (h : IntsAre vs ns) {i : Nat} {a : Value} (e : vs[i]? = some a) : ∃ t, a = .int (ns.getD i 0) t := by
  have hlt : i < ns.length := by
    rw [← h.length]
    exact (List.getElem?_eq_some_iff.mp e).1
  obtain ⟨t, ht⟩ := h.get i (ns[i]'hlt) (List.getElem?_eq_getElem hlt)
  refine ⟨t, ?_⟩
  rw [ht] at e
  rw [List.getD_eq_getElem?_getD, List.getElem?_eq_getElem hlt]
  exact (Option.some.inj e).symm
theorem drop_one (ol : List Int) (i : Nat) : (ol.drop 1).getD i 0 = ol.getD (i + 1) 0 := by
  simp [List.getD_eq_getElem?_getD, List.getElem?_drop, Nat.add_comm]

section
variable {prog : Program} {w : World} {A : Around} {E : Value → Shared → Prop} {env : Env} {s : Shared}
theorem zc_turn_le {vs ws : List Value} {ol : List Int} {pos pa pb : Pos} {la lb : Str} {scope : Scope} {cl : List (Str × Addr)} (hv : IntsAre vs ol) (hw : IntsAre ws (ol.drop 1))
    (hk : ∀ C, (compEnvC scope cl C env).scope.kind = .function) (h1 : ∀ C, (compEnvC scope cl C env).kindOf la = some .local) (h2 : ∀ C, (compEnvC scope cl C env).kindOf lb = some .local) (d1 : (la == ("__debug__" : Str)) = false) (d2 : (lb == ("__debug__" : Str)) = false) :
    ∀ i a b C m₂ h tk E', vs[i]? = some a → ws[i]? = some b → Heap.Ns h C m₂ → m₂ la = some a → m₂ lb = some b →
      wpAny (model prog w) A (eval (.Compare (.Name la pa) [.LtE] [.Name lb pb] pos) (compEnvC scope cl C env)) (fun y s' => y = (fun i => Value.bool (leAt ol i)) i ∧ ∃ tk', s' = { s with heap := h, toks := tk' }) E' { s with heap := h, toks := tk } := by
  intro i a b C m₂ h tk E' ha hb hn x1 x2
  obtain ⟨t1, rfl⟩ := ints_at hv ha
  obtain ⟨t2, rfl⟩ := ints_at hw hb
  rw [drop_one] at x2
  exact zc_le (s := { s with heap := h, toks := tk }) hn x1 x2 ⟨rfl, tk, rfl⟩ (hk C) (h1 C) (h2 C) d1 d2
theorem zc_turn_ge {vs ws : List Value} {ol : List Int} {pos pa pb : Pos} {la lb : Str} {scope : Scope} {cl : List (Str × Addr)} (hv : IntsAre vs ol) (hw : IntsAre ws (ol.drop 1))
    (hk : ∀ C, (compEnvC scope cl C env).scope.kind = .function) (h1 : ∀ C, (compEnvC scope cl C env).kindOf la = some .local) (h2 : ∀ C, (compEnvC scope cl C env).kindOf lb = some .local) (d1 : (la == ("__debug__" : Str)) = false) (d2 : (lb == ("__debug__" : Str)) = false) :
    ∀ i a b C m₂ h tk E', vs[i]? = some a → ws[i]? = some b → Heap.Ns h C m₂ → m₂ la = some a → m₂ lb = some b →
      wpAny (model prog w) A (eval (.Compare (.Name la pa) [.GtE] [.Name lb pb] pos) (compEnvC scope cl C env)) (fun y s' => y = (fun i => Value.bool (geAt ol i)) i ∧ ∃ tk', s' = { s with heap := h, toks := tk' }) E' { s with heap := h, toks := tk } := by
  intro i a b C m₂ h tk E' ha hb hn x1 x2
  obtain ⟨t1, rfl⟩ := ints_at hv ha
  obtain ⟨t2, rfl⟩ := ints_at hw hb
  rw [drop_one] at x2
  exact zc_ge (s := { s with heap := h, toks := tk }) hn x1 x2 ⟨rfl, tk, rfl⟩ (hk C) (h1 C) (h2 C) d1 d2

def isF : Value → Bool
  | .bool b => b == false
  | _ => false
theorem notin_bools {l : Addr} {k nn : Nat} {g : Nat → Bool} {h₀ : Heap} {L : Addr} {news : List (Addr × Obj)} {Q : Value → Shared → Prop} (N : News h₀ L s.heap news) (hm : (l, PySem.W.listOf ((List.range k).map fun i => Value.bool (g i)).toArray nn) ∈ news)
    (h : Q (.bool ((List.range k).all g)) s) : wpAny (model prog w) A (compareOp .NotIn (.bool false) (.ref l)) Q E s := by
  have hl : s.heap.IsList l ((List.range k).map fun i => Value.bool (g i)).toArray := ⟨_, (N _ hm).1, rfl, _, rfl⟩
  refine SeqInW.notIn_listW isF (fun y hy => ?_) hl ?_
  · simp only [List.mem_toArray, List.mem_map] at hy
    obtain ⟨i, _, rfl⟩ := hy
    intro prog w A E s Q h
    exact SeqAt.EqAt.bool_bool (A := A) (s := s) (g i) false prog w E Q h
  · have e : (!(((List.range k).map fun i => Value.bool (g i)).toArray.any isF)) = (List.range k).all g := by
      rw [List.any_toArray, List.any_map]
      induction (List.range k) with
      | nil => rfl
      | cons a r ih =>
        simp only [List.any_cons, List.all_cons, Bool.not_or, ih]
        congr 1
        show (!(g a == false)) = g a
        cases g a <;> rfl
    rw [e]
    exact h
end
end Mine
end
section
open PySem PySem.W PySem.Spec PySem.Calls PyProof.Rows
set_option maxRecDepth 100000
namespace Mine

theorem shareF_bounds {low high most level : Int} (h1 : low < high) (h3 : 0 ≤ most) (h4 : most ≤ 10000) : 0 ≤ shareF low high most level ∧ shareF low high most level ≤ 10000 := by
  unfold shareF
  split
  · omega
  · split
    · omega
    · have := share_q (low := low) (high := high) (most := most) (level := level) (by omega) (by omega) h3
      omega
theorem shareF_mono {low high most a b : Int} (h1 : low < high) (h3 : 0 ≤ most) (h4 : most ≤ 10000) (h : a ≤ b) : shareF low high most a ≤ shareF low high most b := by
  have hb := shareF_bounds (low := low) (high := high) (most := most) (level := b) h1 h3 h4
  have ha := shareF_bounds (low := low) (high := high) (most := most) (level := a) h1 h3 h4
  unfold shareF at *
  by_cases c1 : a ≤ low
  · rw [if_pos c1]; exact hb.1
  · rw [if_neg c1] at ha ⊢
    rw [if_neg (show ¬ b ≤ low by omega)] at hb ⊢
    by_cases c2 : b ≥ high
    · rw [if_pos c2]; exact ha.2
    · rw [if_neg c2, if_neg (show ¬ a ≥ high by omega)]
      rw [Int.fdiv_eq_ediv_of_nonneg _ (by omega), Int.fdiv_eq_ediv_of_nonneg _ (by omega)]
      exact Int.ediv_le_ediv (by omega) (Int.mul_le_mul_of_nonneg_left (by omega) h3)

section
variable {prog : Program} {w : World} {A : Around} {E : Value → Shared → Prop} {s : Shared} {env : Env} {h₀ : Heap} {target : Expr} {body : List Stmt} {Q : Flow → Shared → Prop}
/-- a loop over a made list, by what holds of its state -/
theorem items_state {σ : Type} (M : σ → Str → Option Value) (Led : σ → List (Addr × Obj)) (J : Nat → σ → Prop) {vs : List Value} {ws : List (Addr × String)} {keep : List (Addr × Obj)}
    (hkeep : ∀ c, SubL keep (Led c))
    (turn : ∀ i v c h tk, vs[i]? = some v → J i c → Fr h₀ env.locals h (M c) → AllObj ws (fun its => News h₀ env.locals h (its ++ Led c) →
      wpAny (model prog w) A (assign target env v) (fun _ s₂ => wpAny (model prog w) A (execs body env) (UnrPostW h₀ env.locals { s with heap := h, toks := tk } its (fun m' n' => ∃ c', m' = M c' ∧ n' = Led c' ∧ J (i + 1) c') Q) E s₂) E { s with heap := h, toks := tk }))
    (done : ∀ c h tk, J vs.length c → Fr h₀ env.locals h (M c) → News h₀ env.locals h (Led c) → Q .next { s with heap := h, toks := tk })
    (c₀ : σ) (hj : J 0 c₀) : ItemsRest prog w A E h₀ env target body Q s ws keep (vs.map .val) (M c₀) (Led c₀) := by
  have post : ∀ {s₁ : Shared} {its : List (Addr × Obj)} {P P' : (Str → Option Value) → List (Addr × Obj) → Prop}, (∀ m n, P m n → P' m n) → ∀ f s₂, UnrPostW h₀ env.locals s₁ its P Q f s₂ → UnrPostW h₀ env.locals s₁ its P' Q f s₂ := by
    intro s₁ its P P' hP f s₂ h
    have e : UnrEndW h₀ env.locals s₁ its P s₂ → UnrEndW h₀ env.locals s₁ its P' s₂ := fun ⟨h', tk, m', n', a, b, c, d, r⟩ => ⟨h', tk, m', n', a, b, c, d, hP _ _ r⟩
    cases f with
    | ret v => exact h
    | brk => exact h
    | next => exact e h
    | cont => exact e h
  have all : ∀ {ws : List (Addr × String)} {k k' : List (Addr × Obj) → Prop}, (∀ its, k its → k' its) → AllObj ws k → AllObj ws k' := by
    intro ws
    induction ws with
    | nil => intro k k' hk h; exact hk _ h
    | cons a r ih => intro k k' hk h o ho; exact ih (fun its => hk _) (h o ho)
  have key : ∀ (j i : Nat) (c : σ), i + j = vs.length → J i c → ItemsRest prog w A E h₀ env target body Q s ws keep ((vs.drop i).map .val) (M c) (Led c) := by
    intro j
    induction j with
    | zero =>
      intro i c hi hJ
      have e : i = vs.length := by omega
      subst e
      rw [List.drop_length]
      exact fun h tk F N => done c h tk hJ F N
    | succ j ih =>
      intro i c hi hJ
      have hlt : i < vs.length := by omega
      rw [List.drop_eq_getElem_cons hlt]
      intro v h tk hv F
      have hv' : v = vs[i] := hv
      refine all (fun its hk N => ?_) (turn i v c h tk (by rw [hv']; exact List.getElem?_eq_getElem hlt) hJ F)
      refine wpAny_mono (hk N) (fun _ s₂ h₂ => wpAny_mono h₂ (fun f s₃ p => ?_) fun _ _ e => e) fun _ _ e => e
      refine post (fun m n hq => ?_) f s₃ p
      obtain ⟨c', rfl, rfl, hJ'⟩ := hq
      exact ⟨hkeep c', ih (i + 1) c' (by omega) hJ'⟩
  exact key vs.length 0 c₀ (by omega) hj
end

end Mine
end
section
open PySem PySem.W PySem.Calls PyProof.Rows
set_option maxRecDepth 100000
set_option linter.unusedVariables false
namespace Mine
section
variable {prog : Program} {w : World} {A : Around} {E : Value → Shared → Prop} {s : Shared} {env : Env} {h₀ : Heap} {target : Expr} {body : List Stmt} {Q : Flow → Shared → Prop}
abbrev cuM (m₀ : Str → Option Value) (l : Int) (tl : Tok) (u : Option Value) : Str → Option Value := fun y => if y = Str.ofString "last" then some (.int l tl) else if y = Str.ofString "share" then u else m₀ y
theorem curve_items {I lc la : Addr} {vs : List Value} {ns : List Int} {nn : Nat} {m₀ : Str → Option Value} {t0 : Tok} {o : Obj} {R : List (Addr × Obj)} (low high most : Int) (x0 : Option Value)
    (h1 : low < high) (h3 : 0 ≤ most) (h4 : most ≤ 10000) (hi : IntsAre vs ns) (hs : ∀ (i j : Nat) (a b : Int), i ≤ j → ns[i]? = some a → ns[j]? = some b → a ≤ b) (hx0 : o.data = .cell x0) (hla : ∀ oc, (la, listOf vs.toArray nn) ∈ (lc, oc) :: R)
    (turn : ∀ (oc oI : Obj) (x : Option Value) (a : Int) (t : Tok) (l : Int) (tl : Tok) (u : Option Value) h tk, a ∈ ns → 0 ≤ l → l ≤ shareF low high most a → oc.data = .cell x → oI.cls = .type "list_iterator" → Fr h₀ env.locals h (cuM m₀ l tl u) → News h₀ env.locals h ((I, oI) :: (lc, oc) :: R) →
      wpAny (model prog w) A (assign target env (.int a t)) (fun _ s₂ => wpAny (model prog w) A (execs body env) (UnrPostW h₀ env.locals { s with heap := h, toks := tk } [(I, oI)] (fun m' n' => ∃ (oc' : Obj) (x' : Option Value) (tl' : Tok) (u' : Option Value), oc'.data = .cell x' ∧ m' = cuM m₀ (shareF low high most a) tl' u' ∧ n' = (lc, oc') :: R) Q) E s₂) E { s with heap := h, toks := tk })
    (done : ∀ (oc : Obj) (x : Option Value) (l : Int) (tl : Tok) (u : Option Value) h tk, oc.data = .cell x → Fr h₀ env.locals h (cuM m₀ l tl u) → News h₀ env.locals h ((lc, oc) :: R) → Q .next { s with heap := h, toks := tk }) :
    ItemsRest prog w A E h₀ env target body Q s [(I, "list_iterator")] [(la, listOf vs.toArray nn)] (vs.map .val) (fun y => if y = Str.ofString "last" then some (.int 0 t0) else m₀ y) ((lc, o) :: R) := by
  have hm : (fun y => if y = Str.ofString "last" then some (.int 0 t0) else m₀ y) = cuM m₀ 0 t0 (m₀ (Str.ofString "share")) := by
    funext y
    unfold cuM
    by_cases c1 : y = Str.ofString "last"
    · simp [c1]
    · by_cases c2 : y = Str.ofString "share"
      · rw [if_neg c1, if_neg c1, if_pos c2, c2]
      · rw [if_neg c1, if_neg c1, if_neg c2]
  rw [hm]
  refine items_state (keep := [(la, listOf vs.toArray nn)]) (σ := Obj × Int × Tok × Option Value) (fun c => cuM m₀ c.2.1 c.2.2.1 c.2.2.2) (fun c => (lc, c.1) :: R)
    (fun i c => (∃ x, c.1.data = .cell x) ∧ 0 ≤ c.2.1 ∧ ∀ (j : Nat) (a : Int), i ≤ j → ns[j]? = some a → c.2.1 ≤ shareF low high most a) (fun c => And.intro (hla c.1) True.intro) ?_ ?_ (o, 0, t0, m₀ (Str.ofString "share")) ⟨⟨x0, hx0⟩, Int.le_refl 0, fun j a _ _ => (shareF_bounds h1 h3 h4).1⟩
  · rintro i v ⟨oc, l, tl, u⟩ h tk hv ⟨⟨x, hx⟩, hl, hle⟩ F oI hI N
    have hlt : i < ns.length := by rw [← hi.length]; exact (List.getElem?_eq_some_iff.mp hv).1
    obtain ⟨t, ht⟩ := hi.get i (ns[i]'hlt) (List.getElem?_eq_getElem hlt)
    have ev : v = .int (ns[i]'hlt) t := by rw [ht] at hv; exact (Option.some.inj hv).symm
    subst ev
    refine wpAny_mono (turn oc oI x _ t l tl u h tk (List.getElem_mem hlt) hl (hle i _ (Nat.le_refl _) (List.getElem?_eq_getElem hlt)) hx hI F N) (fun _ s₂ h₂ => wpAny_mono h₂ (fun f s₃ p => ?_) fun _ _ e => e) fun _ _ e => e
    have up : UnrEndW h₀ env.locals { s with heap := h, toks := tk } [(I, oI)] (fun m' n' => ∃ (oc' : Obj) (x' : Option Value) (tl' : Tok) (u' : Option Value), oc'.data = .cell x' ∧ m' = cuM m₀ (shareF low high most (ns[i]'hlt)) tl' u' ∧ n' = (lc, oc') :: R) s₃ →
        UnrEndW h₀ env.locals { s with heap := h, toks := tk } [(I, oI)] (fun m' n' => ∃ c' : Obj × Int × Tok × Option Value, m' = cuM m₀ c'.2.1 c'.2.2.1 c'.2.2.2 ∧ n' = (lc, c'.1) :: R ∧ (∃ x, c'.1.data = .cell x) ∧ 0 ≤ c'.2.1 ∧ ∀ (j : Nat) (a : Int), i + 1 ≤ j → ns[j]? = some a → c'.2.1 ≤ shareF low high most a) s₃ := by
      rintro ⟨h', tk', m', n', a1, a2, a3, a4, oc', x', tl', u', b1, b2, b3⟩
      refine ⟨h', tk', m', n', a1, a2, a3, a4, (oc', shareF low high most (ns[i]'hlt), tl', u'), b2, b3, ⟨x', b1⟩, (shareF_bounds h1 h3 h4).1, fun j a hj ha => ?_⟩
      exact shareF_mono h1 h3 h4 (hs i j _ _ (by omega) (List.getElem?_eq_getElem hlt) ha)
    cases f with
    | ret v => exact p
    | brk => exact p
    | next => exact up p
    | cont => exact up p
  · rintro ⟨oc, l, tl, u⟩ h tk ⟨⟨x, hx⟩, _, _⟩ F N
    exact done oc x l tl u h tk hx F N
end


end Mine
end
section
open PySem PySem.W PySem.Spec PySem.Calls PyProof.Rows
set_option maxRecDepth 100000
namespace Mine
section
variable {prog : Program} {w : World} {A : Around} {E : Value → Shared → Prop} {s : Shared} {h₀ : Heap} {L a b : Addr} {news : List (Addr × Obj)} {Q : Value → Shared → Prop}
theorem ne_two {x y : Bool} {ka kb : Nat} (N : News h₀ L s.heap news) (ma : (a, listOf #[.bool x, .bool y] ka) ∈ news) (mb : (b, listOf #[.bool x, .bool y] kb) ∈ news) (hu : A.units + 64 < cLine)
    (h : Q (.bool false) s) : wpAny (model prog w) A (compareOp .NotEq (.ref a) (.ref b)) Q E s := by
  have rr : ∀ c k, (c, listOf #[.bool x, .bool y] k) ∈ news → ∃ as, Reads s.heap (.ref c) (.list [.bool x, .bool y]) as := fun c k hm =>
    ⟨_, reads_list_at (N.get hm) rfl rfl (ReadsAll.cons (.bool x) (.cons (.bool y) .nil))⟩
  obtain ⟨as, ra⟩ := rr a ka ma
  obtain ⟨bs, rb⟩ := rr b kb mb
  refine ne_dataH ra rb ?_ ?_ hu ?_
  · cases x <;> cases y <;> rfl
  · cases x <;> cases y <;> rfl
  · have e : PyData.eqv (.list [.bool x, .bool y]) (.list [.bool x, .bool y]) = true := by cases x <;> cases y <;> rfl
    rw [e]
    exact h
end
end Mine
end
section
open PySem PySem.W PySem.Spec PySem.Calls PyProof.Rows PyProof.V
set_option maxRecDepth 100000
namespace Mine
section
variable {prog : Program} {w : World} {A : Around} {E : Value → Shared → Prop} {s : Shared} {env : Env} {h₀ : Heap} {x : Str} {body : List Stmt} {Q : Flow → Shared → Prop}
/-- a loop over a range, by what holds of its state -/
theorem range_state {σ : Type} {r : Addr} {a₀ b₀ : Int} {t₀ u₀ v₀ : Tok} {n : Nat} (M : σ → Str → Option Value) (Led : σ → List (Addr × Obj)) (J : Nat → σ → Prop) (c₀ : σ) {m₀ : Str → Option Value} {news : List (Addr × Obj)}
    (hh : A.handled = none) (hr : IsRange s.heap r a₀ b₀ 1 t₀ u₀ v₀) (hsmall : Builtin.Range.small a₀ b₀ 1 = true) (hsz : Builtin.Range.rangeSize a₀ b₀ 1 = (n : Int)) (F : Fr h₀ env.locals s.heap m₀) (N : News h₀ env.locals s.heap news) (hm : m₀ = M c₀) (hn : ∀ p ∈ Led c₀, p ∈ news) (hj : J 0 c₀)
    (turn : ∀ i c t h tk own, i < n → J i c → OwnOff own ((Led c).map (·.1)) → Fr h₀ env.locals h (fun y => if y = x then some (.int (a₀ + (i : Int)) t) else M c y) → News h₀ env.locals h (Led c ++ own) →
      wpAny (model prog w) A (execs body env) (InvPostG h₀ env.locals (fun m' nx => ∃ c', m' = M c' ∧ nx = Led c' ∧ J (i + 1) c') own { s with heap := h, toks := tk } Q) E { s with heap := h, toks := tk })
    (done : ∀ c h tk, J n c → Fr h₀ env.locals h (M c) → News h₀ env.locals h (Led c) → Q .next { s with heap := h, toks := tk }) :
    wpAny (model prog w) A (pyIter (.ref r)) (fun it s₂ => LoopAtV prog w A h₀ env x body Q E it s₂) E s := by
  subst hm
  refine wpAny_pyIter_range hr hsmall ?_
  have W : Walks prog w A s.heap.objs.size [s.heap.objs.size] [s.heap.objs.size] n (fun i v => i < n ∧ ∃ t, v = .int (a₀ + i * 1) t)
      (fun i h => IsRangeIter h s.heap.objs.size (a₀ + (i : Nat) * 1) ((n : Int) - (i : Nat)) 1) := (Walks.range hh _ a₀ 1 n).bound
  refine kdr_loop (fun i m nx => ∃ c, m = M c ∧ nx = Led c ∧ J i c) W (fun _ h => h) (fun _ h => h) ?_ ?_ ?_ ?_ (by show IsRangeIter _ _ _ _ _; rw [hsz]; simpa using Heap.get?_push_size _ rfl) (F.push _) (fun p hp => ⟨Heap.get?_push_of_some _ (N p (hn p hp)).1, (N p (hn p hp)).2⟩) ⟨c₀, rfl, rfl, hj⟩ ?_ ?_
  · intro i h hi b hb
    rw [List.mem_singleton.mp hb]
    exact ⟨_, hi⟩
  · intro hm
    exact absurd F.ns.lt ((List.mem_singleton.mp hm) ▸ Nat.lt_irrefl _)
  · intro b hb
    rw [List.mem_singleton.mp hb]
    exact next_is_new F
  · intro p hp hI
    exact absurd (Heap.lt_size (N p (hn p hp)).1) ((List.mem_singleton.mp hI) ▸ Nat.lt_irrefl _)
  · rintro i v m₁ nx h tk own hi ⟨_, t, rfl⟩ hoff ⟨c, rfl, rfl, hJ⟩ F₁ N₁
    have e1 : a₀ + (i : Int) * 1 = a₀ + (i : Int) := by omega
    rw [e1] at F₁
    exact turn i c t h tk own hi hJ hoff F₁ N₁
  · rintro m₁ nx h tk ⟨c, rfl, rfl, hJ⟩ F₁ N₁
    exact done c h tk hJ F₁ N₁
end
end Mine
end
section
open PySem PySem.W PySem.Calls PyProof.Rows
set_option maxRecDepth 100000
namespace Mine

theorem g0 (a : Int) (l : List Int) (d : Int) : (a :: l).getD (Int.toNat 0) d = a := rfl
theorem g1 (a b : Int) (l : List Int) (d : Int) : (a :: b :: l).getD (Int.toNat 1) d = b := rfl
theorem mulok_fmod {a k x : Int} (h : 0 < k) (h' : k < 2 ^ 64) : IntMulOk (a.fmod k) x :=
  IntMulOk.of_left (intBits_le_64 (by have := fmod_lo a h; omega) (by have := fmod_hi a h; omega))

def srcRet (sa : Addr) (rest : List (Addr × Obj)) (top : Int) (r : Value) (news' : List (Addr × Obj)) : Prop :=
  ∃ (b m d : Int) (t1 t2 t3 : Tok) (n : Nat), r = .int d t1 ∧ 0 ≤ d ∧ d < top ∧ 0 ≤ b ∧ 0 ≤ m ∧ m < 2147483647 ∧ news' = (sa, listOf #[.int b t2, .int m t3] n) :: rest

theorem fdiv_nonneg' {b top : Int} (hb : 0 ≤ b) (ht : 0 < top) : 0 ≤ b.fdiv top := Int.fdiv_nonneg hb (by omega)

local macro_rules | `(tactic| mul_fits) => `(tactic| (simp only [g0, g1]; exact mulok_fmod (by decide) (by decide)))

set_option maxHeartbeats 8000000 in
theorem take_ok (w : World) (sa : Addr) (b m top : Int) (t1 t2 t3 : Tok) (n : Nat) (rest : List (Addr × Obj)) (ho : OwnOff rest [sa])
    (hb : 0 ≤ b) (hm : 0 ≤ m) (hm' : m < 2147483647) (ht : 0 < top) (ht' : top < 2 ^ 20) :
    Claim w 2 187 [.ref sa, .int top t1] ((sa, listOf #[.int b t2, .int m t3] n) :: rest) (srcRet sa rest top) := by
  unfold Claim
  k_with_none
  w_top off
  k_fill
  intro mean mg mb dp un gd cn cs a ccd cl outer A₀ base h₀ L m s Q E B F X N T hk hd hu hret
  refine wpAny_call ?_
  k_dflt cell_enter
  k_steps
  · refine hret _ _ _ _ ?_ (by k_asm) (by k_asm)
    refine ⟨_, _, _, _, _, _, _, rfl, ?_, ?_, ?_, hm, hm', rfl⟩
    · exact fmod_lo _ ht
    · exact fmod_hi _ ht
    · exact fdiv_nonneg' hb ht
  · refine hret _ _ _ _ ?_ (by k_asm) (by k_asm)
    refine ⟨_, _, _, _, _, _, _, rfl, ?_, ?_, hb, ?_, ?_, rfl⟩
    · exact fmod_lo _ ht
    · exact fmod_hi _ ht
    · exact fmod_lo _ (by decide)
    · exact fmod_hi _ (by decide)

end Mine
end
section
open PySem PySem.W PySem.Calls PyProof.Rows
set_option maxRecDepth 100000
namespace Mine

theorem news_sub {h₀ h : Heap} {L : Addr} {n1 n2 : List (Addr × Obj)} (N : News h₀ L h n1) (hs : ∀ p ∈ n2, p ∈ n1) : News h₀ L h n2 := fun p hp => N p (hs p hp)
theorem upd_front {d : Addr} {o : Obj} {news : List (Addr × Obj)} {g : Obj → List (Addr × Obj)} (U : UpdF d o news g) :
    ∃ rest, OwnOff rest [d] ∧ (∀ p ∈ (d, o) :: rest, p ∈ news) ∧ ∀ o', ∀ p ∈ g o', p ∈ (d, o') :: rest := by
  obtain ⟨pre, post, rfl, hg, a, b⟩ := U.split
  refine ⟨pre ++ post, ?_, ?_, ?_⟩
  · intro p hp c hc
    rw [List.mem_singleton.mp hc]
    exact (List.mem_append.mp hp).elim (a p) (b p)
  · intro p hp
    simp only [List.mem_append, List.mem_cons] at hp ⊢
    rcases hp with h | h | h
    · exact .inr (.inl h)
    · exact .inl h
    · exact .inr (.inr h)
  · intro o' p hp
    rw [hg o'] at hp
    simp only [List.mem_append, List.mem_cons] at hp ⊢
    rcases hp with h | h | h
    · exact .inr (.inl h)
    · exact .inl h
    · exact .inr (.inr h)

section
variable {w : World} {mean : ExcName → Option Value} {mg mb : Str → Option Value} {dp un : Nat} {gd : Option (List Code)} {cn : Str} {cs : Scope} {a : Addr} {ccd : Value} {cl : List (Str × Addr)} {outer : List Env} {A₀ : Around} {base h₀ : Heap} {L : Addr} {m₀ : Str → Option Value} {s : Shared} {Q E : Value → Shared → Prop}
  {news : List (Addr × Obj)} {g : Obj → List (Addr × Obj)}
theorem take_use {sa : Addr} {b m top : Int} {t1 t2 t3 : Tok} {n : Nat}
    (B : Below A₀ base outer h₀) (F : Fr h₀ L s.heap m₀) (X : (hd.heap_39 w.params).In h₀) (N : News h₀ L s.heap news) (T : Top hd.view_39 (looseW hd.view_39 [Str.ofString "SettingError"]) mean mg mb h₀) (hk : cs.kind = .function)
    (U : UpdF sa (listOf #[.int b t2, .int m t3] n) news g) (hb : 0 ≤ b) (hm : 0 ≤ m) (hm' : m < 2147483647) (ht : 0 < top) (ht' : top < 2 ^ 20) (hd : dp + 2 < recursionLimit) (hu : un + 16 < cLine)
    (ret : ∀ (b' m' d : Int) (t1' t2' t3' : Tok) (n' : Nat) h' tk', 0 ≤ d → d < top → 0 ≤ b' → 0 ≤ m' → m' < 2147483647 → Fr h₀ L h' m₀ → News h₀ L h' (g (listOf #[.int b' t2', .int m' t3'] n')) → Q (.int d t1') { s with heap := h', toks := tk' }) :
    wpAny (model PySem.Challenge.rw_pc0359_01.row.prog w) (ktrTop dp un gd cn cs L a ccd cl outer) (call (.ref 187) [.ref sa, .int top t1]) Q E s := by
  obtain ⟨rest, h1, h2, h3⟩ := upd_front U
  refine take_ok w sa b m top t1 t2 t3 n rest h1 hb hm hm' ht ht' _ _ _ _ _ _ _ _ _ _ _ _ _ _ _ _ _ _ _ _ B F X (news_sub N h2) T hk hd hu ?_
  rintro r news' h' tk' ⟨b', m', d, t1', t2', t3', n', rfl, k1, k2, k3, k4, k5, rfl⟩ F' N'
  exact ret b' m' d t1' t2' t3' n' h' tk' k1 k2 k3 k4 k5 F' (news_sub N' (h3 _))
end

local macro_rules | `(tactic| walk_at "call ref") => `(tactic| ((with_reducible show wpAny _ _ (call (Value.ref 187) _) _ _ _); k_dflt (refine' take_use ?k1 ?k2 ?k3 ?k4 ?k5 ?kK ?kU ?hb ?hm ?hm' ?ht ?ht' ?kd ?ku ?_; (case k1 => k_asm); (case k2 => k_asm); (case k3 => k_asm); (case k4 => k_asm); (case k5 => k_asm); (case kK => first | exact rfl | assumption); (case kU => k_updF); (case hb => assumption); (case hm => assumption); (case hm' => assumption); (case ht => first | decide | omega); (case ht' => first | decide | omega); (case kd => ktr_room); (case ku => ktr_units); k_whole); intro b9 m9 d9 t91 t92 t93 n9 h9 tk9 hd91 hd92 hb9 hm91 hm92 F9 N9; (try dsimp only at N9); (try dsimp only); (try k_fold)))

def oneRet (sa : Addr) (rest : List (Addr × Obj)) (ns : List Int) (r : Value) (news' : List (Addr × Obj)) : Prop :=
  ∃ (b m d : Int) (t1 t2 t3 : Tok) (n : Nat), r = .int (ns.getD d.toNat 0) t1 ∧ 0 ≤ d ∧ d < ns.length ∧ 0 ≤ b ∧ 0 ≤ m ∧ m < 2147483647 ∧ news' = (sa, listOf #[.int b t2, .int m t3] n) :: rest

set_option maxHeartbeats 8000000 in
theorem one_ok (w : World) (sa ta : Addr) (b m : Int) (t2 t3 : Tok) (n n2 : Nat) (vs : List Value) (ns : List Int) (rest : List (Addr × Obj)) (ho : OwnOff rest [sa, ta]) (hne : @Ne Nat sa ta)
    (hb : 0 ≤ b) (hm : 0 ≤ m) (hm' : m < 2147483647) (hi : IntsAre vs ns) (hl : 0 < ns.length) (hl' : ns.length < 1000) :
    Claim w 3 194 [.ref sa, .ref ta] ((sa, listOf #[.int b t2, .int m t3] n) :: (ta, listOf vs.toArray n2) :: rest) (oneRet sa ((ta, listOf vs.toArray n2) :: rest) ns) := by
  unfold Claim
  k_with_none
  w_top off
  k_fill
  intro mean mg mb dp un gd cn cs a ccd cl outer A₀ base h₀ L m s Q E B F X N T hk hd hu hret
  refine wpAny_call ?_
  k_dflt cell_enter
  k_steps
  refine hret _ _ _ _ ?_ (by k_asm) (by k_asm)
  refine ⟨_, _, _, _, _, _, _, rfl, ?_, ?_, ?_, ?_, ?_, rfl⟩ <;> assumption

end Mine
end
section
open PySem PySem.W PySem.Calls PyProof.Rows
set_option maxRecDepth 100000
namespace Mine

theorem allLt_ne {d c : Addr} : ∀ {l : List (Addr × Obj)}, AllLt d l → @LE.le Nat _ d c → ∀ p ∈ l, p.1 ≠ c
  | [], _, _ => fun _ h => nomatch h
  | _ :: _, h, k => fun q hq => by
    rcases List.mem_cons.mp hq with rfl | hq
    · exact Nat.ne_of_lt (Nat.lt_of_lt_of_le h.1 k)
    · exact allLt_ne h.2 k q hq
local macro_rules | `(tactic| k_all) => `(tactic| exact allLt_ne (by assumption) (by omega))
local macro_rules | `(tactic| k_room) => `(tactic| ktr_room)
local macro_rules | `(tactic| k_units) => `(tactic| ktr_units)
local macro_rules | `(tactic| cell_enter) => `(tactic| (refine' code_defC ?k1 ?k2 ?k3 ?k4 ?k5 ?kA ?kF ?kK ?k6 ?k7 ?k8 ?k9 ?kB ?kD ?_ ?c2 ?c3 ?c4; (case kA => exact rfl); (case kF => exact rfl); (case kK => assumption); (case k1 => k_asm); (case k2 => k_asm); (case k3 => k_asm); (case k4 => k_asm); (case k5 => k_asm); (case k6 => k_is); (case k7 => k_is); (case k8 => ktr_room); (case k9 => exact BindsTo.of_eq rfl); (case kB => exact rfl); (case kD => decide +kernel); (case c2 => exact rfl); (case c3 => exact rfl); (case c4 => exact rfl); k_whole; intro g' L' h' tk' cells' FG' F' N' Y' B' X' T' l1; (try k_lt l1); k_cells Y'; (try simp only [List.cons_append, List.nil_append] at N'); (try dsimp only); (try k_lift B'); (try k_fold)))

local macro_rules | `(tactic| walk_at "CompSrcT") => `(tactic| k_extra "comp")
local macro_rules | `(tactic| walk_at "CompEnd") => `(tactic| (refine LCg.CompEnd.intro (by k_asm) (by k_asm) _ (fun p hp => hp) (by assumption) True.intro ?_))
local macro_rules | `(tactic| walk_at "KCiEl") => `(tactic| k_extra "el")
local macro_rules | `(tactic| walk_at "KCiNo") => `(tactic| k_extra "no")
local macro_rules | `(tactic| walk_at "subscriptTail Name UnaryOp ref int") => `(tactic| k_extra "neg")

set_option maxHeartbeats 8000000 in
theorem lshare_ok (w : World) (low high most level : Int) (t1 t2 t3 t4 : Tok) (news : List (Addr × Obj))
    (h0 : 0 ≤ low) (h1 : low < high) (h2 : high < 1000) (h3 : 0 ≤ most) (h4 : most < 1000) (h5 : 0 ≤ level) (h6 : level < 100000) :
    Claim w 2 199 [.int low t1, .int high t2, .int most t3, .int level t4] news (fun r news' => ∃ t, r = .int (shareF low high most level) t ∧ news' = news) := by
  unfold Claim
  k_with_none
  w_top off
  k_fill
  intro mean mg mb dp un gd cn cs a ccd cl outer A₀ base h₀ L m s Q E B F X N T hk hd hu hret
  refine wpAny_call ?_
  k_dflt cell_enter
  k_with "comp" =>
    k_dflt (
      refine LCt.CompSrcT.range (n := (most + 1 - 0).toNat) (by rfl) (by k_asm) (by k_asm) (by assumption) (small_one (by omega) (by omega) (by omega) (by omega)) (rangeSize_nat _ _) (by rw [PySem.sizeLine_eq]; omega) ?_
      intro g'
      refine' kci_range (shG low high most level) (fun k' t' I' oI' C' oC' D' m' ys' l' h' tk' E' hlo' hhi' hI' hC' hx' F' N' off' ne' mk' => ?_) ?_ (shG_grows low high most level))
  k_with "el" => exact kci_el (if_pos (by assumption)) rfl rfl
  k_with "no" => exact kci_no (if_neg (by assumption)) rfl
  k_with "neg" =>
    k_dflt (
      have hS := share_last (low := low) (high := high) (most := most) (level := level) (by omega) (by omega) h3
      with_unfolding_all refine' item_list_ints_neg (ns := (rangeKs 0 (most + 1 - 0).toNat).foldl (shG low high most level) []) ?k1 ?k2 ?k3 ?k4 ?k5 ?_
      case k1 => is_list
      case k2 => assumption
      case k3 => decide
      case k4 => omega
      case k5 => decide
      intro t9
      rw [hS.2])
  k_steps
  · rename News _ _ _ _ => nn
    have e : shareF low high most level = 0 := by unfold shareF; rw [if_pos (by assumption)]
    refine hret _ _ _ _ ⟨_, congrArg (fun x => Value.int x _) e.symm, rfl⟩ (by k_asm) (news_sub nn (by intro p hp; simp [hp]))
  · rename News _ _ _ _ => nn
    have e : shareF low high most level = 10000 := by unfold shareF; rw [if_neg (by assumption), if_pos (by assumption)]
    refine hret _ _ _ _ ⟨_, congrArg (fun x => Value.int x _) e.symm, rfl⟩ (by k_asm) (news_sub nn (by intro p hp; simp [hp]))
  · rename News _ _ _ _ => nn
    have e : shareF low high most level = (most * (level - low)).fdiv (high - low) := by unfold shareF; rw [if_neg (by assumption), if_neg (by assumption)]
    refine hret _ _ _ _ ⟨_, congrArg (fun x => Value.int x _) e.symm, rfl⟩ (by k_asm) (news_sub nn (by intro p hp; simp [hp]))

end Mine
end
section
open PySem PySem.W PySem.Calls PyProof.Rows
set_option maxRecDepth 100000
set_option linter.unusedVariables false
namespace Mine

abbrev avgObj (w : World) (k1 k2 : Tok) (sh : Int) (t1 : Tok) (p : Int) (t2 : Tok) : Obj :=
  dictOf [⟨PyData.keyHash w.params (Str.ofString "shift"), .str (Str.ofString "shift") k1, .int sh t1⟩, ⟨PyData.keyHash w.params (Str.ofString "parts"), .str (Str.ofString "parts") k2, .int p t2⟩] 2
abbrev curveObj (w : World) (k1 k2 k3 : Tok) (low : Int) (t1 : Tok) (high : Int) (t2 : Tok) (most : Int) (t3 : Tok) : Obj :=
  dictOf [⟨PyData.keyHash w.params (Str.ofString "low"), .str (Str.ofString "low") k1, .int low t1⟩, ⟨PyData.keyHash w.params (Str.ofString "high"), .str (Str.ofString "high") k2, .int high t2⟩, ⟨PyData.keyHash w.params (Str.ofString "most"), .str (Str.ofString "most") k3, .int most t3⟩] 3

local macro_rules | `(tactic| k_room) => `(tactic| ktr_room)
local macro_rules | `(tactic| k_units) => `(tactic| ktr_units)

theorem shareF_lo {low high most level : Int} (h : level ≤ low) : shareF low high most level = 0 := by unfold shareF; rw [if_pos h]
theorem shareF_hi {low high most level : Int} (h : ¬ level ≤ low) (h' : high ≤ level) : shareF low high most level = 10000 := by unfold shareF; rw [if_neg h, if_pos h']
theorem shareF_mid {low high most level : Int} (h : ¬ level ≤ low) (h' : ¬ high ≤ level) : shareF low high most level = (most * (level - low)).fdiv (high - low) := by unfold shareF; rw [if_neg h, if_neg h']

set_option maxHeartbeats 8000000 in
theorem told_ok (w : World) (x dx : Addr) (k1 k2 t1 t2 t3 : Tok) (sh p level : Int) (rest : List (Addr × Obj))
    (ho : OwnOff rest [x, dx]) (hne : @Ne Nat x dx)
    (h0 : 0 ≤ sh) (h1 : sh < 4) (h2 : 0 ≤ p) (h3 : p < 1000000) (h4 : 0 ≤ level) (h5 : level < 1000000) :
    Claim w 2 82 [.ref x, .int level t3] ((x, instObj 85 dx) :: (dx, avgObj w k1 k2 sh t1 p t2) :: rest)
      (fun r news' => ∃ t t2, r = .int (avgVal sh (avgStep sh p level)) t ∧ news' = (x, instObj 85 dx) :: (dx, avgObj w k1 k2 sh t1 (avgStep sh p level) t2) :: rest) := by
  unfold Claim
  k_with_none
  w_top off
  k_fill
  intro mean mg mb dp un gd cn cs a ccd cl outer A₀ base h₀ L m s Q E B F X N T hk hd hu hret
  refine wpAny_call ?_
  k_dflt cell_enter
  k_steps
  refine hret _ _ _ _ ⟨_, _, rfl, rfl⟩ (by k_asm) (by k_asm)

set_option maxHeartbeats 8000000 in
theorem share_ok (w : World) (c dc : Addr) (k1 k2 k3 t1 t2 t3 t4 : Tok) (low high most level : Int) (rest : List (Addr × Obj))
    (ho : OwnOff rest [c, dc]) (hne : @Ne Nat c dc)
    (h0 : 0 ≤ low) (h1 : low < high) (h2 : high < 1000) (h3 : 0 ≤ most) (h4 : most < 1000) (h5 : 0 ≤ level) (h6 : level < 100000) :
    Claim w 2 110 [.ref c, .int level t4] ((c, instObj 120 dc) :: (dc, curveObj w k1 k2 k3 low t1 high t2 most t3) :: rest)
      (fun r news' => ∃ t, r = .int (shareF low high most level) t ∧ news' = (c, instObj 120 dc) :: (dc, curveObj w k1 k2 k3 low t1 high t2 most t3) :: rest) := by
  unfold Claim
  k_with_none
  w_top off
  k_fill
  intro mean mg mb dp un gd cn cs a ccd cl outer A₀ base h₀ L m s Q E B F X N T hk hd hu hret
  refine wpAny_call ?_
  k_dflt cell_enter
  k_steps
  · refine hret _ _ _ _ ⟨_, congrArg (fun x => Value.int x _) (shareF_lo (by assumption)).symm, rfl⟩ (by k_asm) (by k_asm)
  · refine hret _ _ _ _ ⟨_, congrArg (fun x => Value.int x _) (shareF_hi (by assumption) (by assumption)).symm, rfl⟩ (by k_asm) (by k_asm)
  · refine hret _ _ _ _ ⟨_, congrArg (fun x => Value.int x _) (shareF_mid (by assumption) (by assumption)).symm, rfl⟩ (by k_asm) (by k_asm)

set_option maxHeartbeats 8000000 in
theorem drops_ok (w : World) (c dc : Addr) (k1 k2 k3 t1 t2 t3 t4 t5 : Tok) (low high most level told : Int) (rest : List (Addr × Obj))
    (ho : OwnOff rest [c, dc]) (hne : @Ne Nat c dc)
    (h0 : 0 ≤ low) (h1 : low < high) (h2 : high < 1000) (h3 : 0 ≤ most) (h4 : most < 1000) (h5 : 0 ≤ level) (h6 : level < 100000) :
    Claim w 3 117 [.ref c, .int level t4, .int told t5] ((c, instObj 120 dc) :: (dc, curveObj w k1 k2 k3 low t1 high t2 most t3) :: rest)
      (fun r news' => r = .bool (decide (told < shareF low high most level)) ∧ news' = (c, instObj 120 dc) :: (dc, curveObj w k1 k2 k3 low t1 high t2 most t3) :: rest) := by
  unfold Claim
  k_with_none
  w_top off
  k_fill
  intro mean mg mb dp un gd cn cs a ccd cl outer A₀ base h₀ L m s Q E B F X N T hk hd hu hret
  refine wpAny_call ?_
  k_dflt cell_enter
  k_steps
  · refine hret _ _ _ _ ⟨congrArg (fun x => Value.bool (decide (told < x))) (shareF_lo (by assumption)).symm, rfl⟩ (by k_asm) (by k_asm)
  · refine hret _ _ _ _ ⟨congrArg (fun x => Value.bool (decide (told < x))) (shareF_hi (by assumption) (by assumption)).symm, rfl⟩ (by k_asm) (by k_asm)
  · refine hret _ _ _ _ ⟨congrArg (fun x => Value.bool (decide (told < x))) (shareF_mid (by assumption) (by assumption)).symm, rfl⟩ (by k_asm) (by k_asm)

end Mine
end
section
open PySem PySem.W PySem.Calls PyProof.Rows
set_option maxRecDepth 100000
set_option linter.unusedVariables false
namespace Mine

theorem claim_use {w : World} {k : Nat} {f : Addr} {vs : List Value} {news : List (Addr × Obj)} {Ret : Value → List (Addr × Obj) → Prop} (C : Claim w k f vs news Ret)
    {mean : ExcName → Option Value} {mg mb : Str → Option Value} {dp un : Nat} {gd : Option (List Code)} {cn : Str} {cs : Scope} {a : Addr} {ccd : Value} {cl : List (Str × Addr)} {outer : List Env} {A₀ : Around} {base h₀ : Heap} {L : Addr} {m : Str → Option Value} {s : Shared} {Q E : Value → Shared → Prop}
    (B : Below A₀ base outer h₀) (F : Fr h₀ L s.heap m) (X : (hd.heap_39 w.params).In h₀) (N : News h₀ L s.heap news) (T : Top hd.view_39 (looseW hd.view_39 [Str.ofString "SettingError"]) mean mg mb h₀) (hk : cs.kind = .function)
    (hd : dp + k < recursionLimit) (hu : un + 8 * k < cLine)
    (ret : ∀ r news' h' tk', Ret r news' → Fr h₀ L h' m → News h₀ L h' news' → Q r { s with heap := h', toks := tk' }) :
    wpAny (model PySem.Challenge.rw_pc0359_01.row.prog w) (ktrTop dp un gd cn cs L a ccd cl outer) (call (.ref f) vs) Q E s :=
  C mean mg mb dp un gd cn cs a ccd cl outer A₀ base h₀ L m s Q E B F X N T hk hd hu ret

theorem claim_conv {w : World} {k : Nat} {f : Addr} {vs : List Value} {news : List (Addr × Obj)} {Ret : Value → List (Addr × Obj) → Prop}
    (h : ∀ (h₀ : Heap) (L : Addr) (h : Heap), News h₀ L h news → ∃ news1 Ret1, Claim w k f vs news1 Ret1 ∧ (∀ p ∈ news1, p ∈ news) ∧ ∀ r n1, Ret1 r n1 → ∃ n2, Ret r n2 ∧ ∀ p ∈ n2, p ∈ n1) : Claim w k f vs news Ret := by
  intro mean mg mb dp un gd cn cs a ccd cl outer A₀ base h₀ L m s Q E B F X N T hk hd hu ret
  obtain ⟨news1, Ret1, C, h1, h2⟩ := h h₀ L s.heap N
  refine C mean mg mb dp un gd cn cs a ccd cl outer A₀ base h₀ L m s Q E B F X (news_sub N h1) T hk hd hu ?_
  intro r n1 h' tk' hr F' N'
  obtain ⟨n2, hr2, hs⟩ := h2 r n1 hr
  exact ret r n2 h' tk' hr2 F' (news_sub N' hs)

theorem news_same {h₀ h : Heap} {L : Addr} {news : List (Addr × Obj)} (N : News h₀ L h news) {p q : Addr × Obj} (hp : p ∈ news) (hq : q ∈ news) (e : p.1 = q.1) : p = q := by
  have h1 := (N p hp).1
  have h2 := (N q hq).1
  rw [e, h2] at h1
  exact Prod.ext e (Option.some.inj h1).symm

theorem ro_only {h₀ h : Heap} {L : Addr} {news : List (Addr × Obj)} (N : News h₀ L h news) (ros : List (Addr × Obj)) (hro : ∀ p ∈ ros, p ∈ news) :
    ∃ rest, OwnOff rest (ros.map (·.1)) ∧ (∀ p ∈ ros ++ rest, p ∈ news) ∧ ∀ p ∈ news, p ∈ ros ++ rest := by
  refine ⟨news.filter fun p => decide (p.1 ∉ ros.map (·.1)), ?_, ?_, ?_⟩
  · intro p hp b hb e
    have h1 := (List.mem_filter.mp hp).2
    simp only [decide_eq_true_eq] at h1
    exact h1 (e ▸ hb)
  · intro p hp
    rcases List.mem_append.mp hp with hp | hp
    · exact hro p hp
    · exact (List.mem_filter.mp hp).1
  · intro p hp
    by_cases h1 : p.1 ∈ ros.map (·.1)
    · obtain ⟨q, hq, e⟩ := List.mem_map.mp h1
      rw [news_same N hp (hro q hq) e.symm]
      exact List.mem_append.mpr (.inl hq)
    · exact List.mem_append.mpr (.inr (List.mem_filter.mpr ⟨hp, by simpa using h1⟩))

theorem upd_ro {h₀ h : Heap} {L : Addr} {news : List (Addr × Obj)} {d : Addr} {o : Obj} {g : Obj → List (Addr × Obj)} (U : UpdF d o news g) (N : News h₀ L h news) (ros : List (Addr × Obj)) (hro : ∀ p ∈ ros, p ∈ news) (hne : ∀ p ∈ ros, p.1 ≠ d) :
    ∃ rest, OwnOff rest (ros.map (·.1) ++ [d]) ∧ (∀ p ∈ ros ++ (d, o) :: rest, p ∈ news) ∧ ∀ o', ∀ p ∈ g o', p ∈ ros ++ (d, o') :: rest := by
  obtain ⟨pre, post, rfl, hg, a, b⟩ := U.split
  refine ⟨(pre ++ post).filter fun p => decide (p.1 ∉ ros.map (·.1)), ?_, ?_, ?_⟩
  · intro p hp c hc
    have h1 := List.mem_filter.mp hp
    rcases List.mem_append.mp hc with hc | hc
    · intro e
      have h2 := h1.2
      simp only [decide_eq_true_eq] at h2
      exact h2 (e ▸ hc)
    · rw [List.mem_singleton.mp hc]
      exact (List.mem_append.mp h1.1).elim (a p) (b p)
  · intro p hp
    rcases List.mem_append.mp hp with hp | hp
    · exact hro p hp
    · rcases List.mem_cons.mp hp with rfl | hp
      · simp
      · have h1 := (List.mem_filter.mp hp).1
        rcases List.mem_append.mp h1 with h1 | h1
        · exact List.mem_append.mpr (.inl h1)
        · exact List.mem_append.mpr (.inr (.tail _ h1))
  · intro o' p hp
    rw [hg o'] at hp
    have key : p ∈ pre ++ post → p ∈ ros ++ (d, o') :: (pre ++ post).filter (fun p => decide (p.1 ∉ ros.map (·.1))) := by
      intro hp
      by_cases h1 : p.1 ∈ ros.map (·.1)
      · obtain ⟨q, hq, e⟩ := List.mem_map.mp h1
        have hp' : p ∈ pre ++ (d, o) :: post := (List.mem_append.mp hp).elim (fun z => List.mem_append.mpr (.inl z)) fun z => List.mem_append.mpr (.inr (.tail _ z))
        rw [news_same N hp' (hro q hq) e.symm]
        exact List.mem_append.mpr (.inl hq)
      · exact List.mem_append.mpr (.inr (.tail _ (List.mem_filter.mpr ⟨hp, by simpa using h1⟩)))
    rcases List.mem_append.mp hp with hp | hp
    · exact key (List.mem_append.mpr (.inl hp))
    · rcases List.mem_cons.mp hp with rfl | hp
      · exact List.mem_append.mpr (.inr (.head _))
      · exact key (List.mem_append.mpr (.inr hp))

def takeRet (g : Obj → List (Addr × Obj)) (top : Int) (r : Value) (news' : List (Addr × Obj)) : Prop :=
  ∃ (d b m : Int) (t1 t2 t3 : Tok) (n : Nat), r = .int d t1 ∧ 0 ≤ d ∧ d < top ∧ 0 ≤ b ∧ 0 ≤ m ∧ m < 2147483647 ∧ news' = g (listOf #[.int b t2, .int m t3] n)
def pickRet (g : Obj → List (Addr × Obj)) (ns : List Int) (r : Value) (news' : List (Addr × Obj)) : Prop :=
  ∃ (d : Nat) (b m : Int) (t1 t2 t3 : Tok) (n : Nat), r = .int (ns.getD d 0) t1 ∧ d < ns.length ∧ 0 ≤ b ∧ 0 ≤ m ∧ m < 2147483647 ∧ news' = g (listOf #[.int b t2, .int m t3] n)

theorem take_c {w : World} {sa : Addr} {b m top : Int} {t1 t2 t3 : Tok} {n : Nat} {news : List (Addr × Obj)} {g : Obj → List (Addr × Obj)} (U : UpdF sa (listOf #[.int b t2, .int m t3] n) news g)
    (hb : 0 ≤ b) (hm : 0 ≤ m) (hm' : m < 2147483647) (ht : 0 < top) (ht' : top < 2 ^ 20) : Claim w 2 187 [.ref sa, .int top t1] news (takeRet g top) := by
  refine claim_conv fun h₀ L h N => ?_
  obtain ⟨rest, h1, h2, h3⟩ := upd_ro U N [] (by simp) (by simp)
  refine ⟨_, _, take_ok w sa b m top t1 t2 t3 n rest h1 hb hm hm' ht ht', h2, ?_⟩
  rintro r n1 ⟨b', m', d, t1', t2', t3', n', rfl, k1, k2, k3, k4, k5, rfl⟩
  exact ⟨_, ⟨d, b', m', t1', t2', t3', n', rfl, k1, k2, k3, k4, k5, rfl⟩, h3 _⟩

theorem one_c {w : World} {sa ta : Addr} {b m : Int} {t2 t3 : Tok} {n n2 : Nat} {vs : List Value} {ns : List Int} {news : List (Addr × Obj)} {g : Obj → List (Addr × Obj)} (U : UpdF sa (listOf #[.int b t2, .int m t3] n) news g)
    (hta : (ta, listOf vs.toArray n2) ∈ news) (hne : @Ne Nat ta sa) (hi : IntsAre vs ns)
    (hb : 0 ≤ b) (hm : 0 ≤ m) (hm' : m < 2147483647) (hl : 0 < ns.length) (hl' : ns.length < 1000) : Claim w 3 194 [.ref sa, .ref ta] news (pickRet g ns) := by
  refine claim_conv fun h₀ L h N => ?_
  obtain ⟨rest, h1, h2, h3⟩ := upd_ro U N [(ta, listOf vs.toArray n2)] (by simpa using hta) (by simpa using hne)
  refine ⟨_, _, one_ok w sa ta b m t2 t3 n n2 vs ns rest ?_ (Ne.symm hne) hb hm hm' hi hl hl', ?_, ?_⟩
  · intro p hp c hc
    refine h1 p hp c ?_
    simp only [List.map_cons, List.map_nil, List.cons_append, List.nil_append, List.mem_cons, List.not_mem_nil, or_false] at hc ⊢
    exact hc.symm
  · intro p hp
    refine h2 p ?_
    simp only [List.cons_append, List.nil_append, List.mem_cons] at hp ⊢
    rcases hp with h | h | h
    · exact .inr (.inl h)
    · exact .inl h
    · exact .inr (.inr h)
  · rintro r n1 ⟨b', m', d, t1', t2', t3', n', rfl, k1, k2, k3, k4, k5, rfl⟩
    refine ⟨_, ⟨d.toNat, b', m', t1', t2', t3', n', rfl, by omega, k3, k4, k5, rfl⟩, ?_⟩
    intro p hp
    have := h3 _ p hp
    simp only [List.cons_append, List.nil_append, List.mem_cons] at this ⊢
    rcases this with h | h | h
    · exact .inr (.inl h)
    · exact .inl h
    · exact .inr (.inr h)

theorem told_c {w : World} {x dx : Addr} {k1 k2 t1 t2 t3 : Tok} {sh p level : Int} {news : List (Addr × Obj)} {g : Obj → List (Addr × Obj)} (U : UpdF dx (avgObj w k1 k2 sh t1 p t2) news g)
    (hx : (x, instObj 85 dx) ∈ news) (hne : @Ne Nat x dx) (h0 : 0 ≤ sh) (h1 : sh < 4) (h2 : 0 ≤ p) (h3 : p < 1000000) (h4 : 0 ≤ level) (h5 : level < 1000000) :
    Claim w 2 82 [.ref x, .int level t3] news (fun r news' => ∃ (q v : Int) (t t2 : Tok), q = avgStep sh p level ∧ v = avgVal sh q ∧ r = .int v t ∧ news' = g (avgObj w k1 k2 sh t1 q t2)) := by
  refine claim_conv fun h₀ L h N => ?_
  obtain ⟨rest, k1', k2', k3'⟩ := upd_ro U N [(x, instObj 85 dx)] (by simpa using hx) (by simpa using hne)
  refine ⟨_, _, told_ok w x dx k1 k2 t1 t2 t3 sh p level rest k1' hne h0 h1 h2 h3 h4 h5, k2', ?_⟩
  rintro r n1 ⟨t, t2', rfl, rfl⟩
  exact ⟨_, ⟨_, _, t, t2', rfl, rfl, rfl, rfl⟩, k3' _⟩

theorem share_c {w : World} {c dc : Addr} {k1 k2 k3 t1 t2 t3 t4 : Tok} {low high most level : Int} {news : List (Addr × Obj)}
    (hc : (c, instObj 120 dc) ∈ news) (hdc : (dc, curveObj w k1 k2 k3 low t1 high t2 most t3) ∈ news) (hne : @Ne Nat c dc)
    (h0 : 0 ≤ low) (h1 : low < high) (h2 : high < 1000) (h3 : 0 ≤ most) (h4 : most < 1000) (h5 : 0 ≤ level) (h6 : level < 100000) :
    Claim w 2 110 [.ref c, .int level t4] news (fun r news' => ∃ (v : Int) (t : Tok), v = shareF low high most level ∧ r = .int v t ∧ news' = news) := by
  refine claim_conv fun h₀ L h N => ?_
  obtain ⟨rest, k1', k2', k3'⟩ := ro_only N [(c, instObj 120 dc), (dc, curveObj w k1 k2 k3 low t1 high t2 most t3)] (by intro p hp; simp only [List.mem_cons, List.not_mem_nil, or_false] at hp; rcases hp with rfl | rfl <;> assumption)
  refine ⟨_, _, share_ok w c dc k1 k2 k3 t1 t2 t3 t4 low high most level rest k1' hne h0 h1 h2 h3 h4 h5 h6, k2', ?_⟩
  rintro r n1 ⟨t, rfl, rfl⟩
  exact ⟨_, ⟨_, t, rfl, rfl, rfl⟩, k3'⟩

theorem lshare_c {w : World} {low high most level : Int} {t1 t2 t3 t4 : Tok} {news : List (Addr × Obj)}
    (h0 : 0 ≤ low) (h1 : low < high) (h2 : high < 1000) (h3 : 0 ≤ most) (h4 : most < 1000) (h5 : 0 ≤ level) (h6 : level < 100000) :
    Claim w 2 199 [.int low t1, .int high t2, .int most t3, .int level t4] news (fun r news' => ∃ (v : Int) (t : Tok), v = shareF low high most level ∧ r = .int v t ∧ news' = news) := by
  refine claim_conv fun h₀ L h N => ?_
  refine ⟨_, _, lshare_ok w low high most level t1 t2 t3 t4 news h0 h1 h2 h3 h4 h5 h6, fun _ hp => hp, ?_⟩
  rintro r n1 ⟨t, rfl, rfl⟩
  exact ⟨_, ⟨_, t, rfl, rfl, rfl⟩, fun _ hp => hp⟩

theorem drops_c {w : World} {c dc : Addr} {k1 k2 k3 t1 t2 t3 t4 t5 : Tok} {low high most level told : Int} {news : List (Addr × Obj)}
    (hc : (c, instObj 120 dc) ∈ news) (hdc : (dc, curveObj w k1 k2 k3 low t1 high t2 most t3) ∈ news) (hne : @Ne Nat c dc)
    (h0 : 0 ≤ low) (h1 : low < high) (h2 : high < 1000) (h3 : 0 ≤ most) (h4 : most < 1000) (h5 : 0 ≤ level) (h6 : level < 100000) :
    Claim w 3 117 [.ref c, .int level t4, .int told t5] news (fun r news' => ∃ v : Int, v = shareF low high most level ∧ r = .bool (decide (told < v)) ∧ news' = news) := by
  refine claim_conv fun h₀ L h N => ?_
  obtain ⟨rest, k1', k2', k3'⟩ := ro_only N [(c, instObj 120 dc), (dc, curveObj w k1 k2 k3 low t1 high t2 most t3)] (by intro p hp; simp only [List.mem_cons, List.not_mem_nil, or_false] at hp; rcases hp with rfl | rfl <;> assumption)
  refine ⟨_, _, drops_ok w c dc k1 k2 k3 t1 t2 t3 t4 t5 low high most level told rest k1' hne h0 h1 h2 h3 h4 h5 h6, k2', ?_⟩
  rintro r n1 ⟨rfl, rfl⟩
  exact ⟨_, ⟨_, rfl, rfl, rfl⟩, k3'⟩
theorem lshare_cv {w : World} {low high most level v : Int} {t1 t2 t3 t4 : Tok} {news : List (Addr × Obj)} (hv : v = shareF low high most level)
    (h0 : 0 ≤ low) (h1 : low < high) (h2 : high < 1000) (h3 : 0 ≤ most) (h4 : most < 1000) (h5 : 0 ≤ level) (h6 : level < 100000) :
    Claim w 2 199 [.int low t1, .int high t2, .int most t3, .int level t4] news (fun r news' => ∃ t : Tok, r = .int v t ∧ news' = news) := by
  subst hv
  exact lshare_ok w low high most level t1 t2 t3 t4 news h0 h1 h2 h3 h4 h5 h6

theorem drops_cv {w : World} {c dc : Addr} {k1 k2 k3 t1 t2 t3 t4 t5 : Tok} {low high most level told v : Int} {news : List (Addr × Obj)} (hv : v = shareF low high most level)
    (hc : (c, instObj 120 dc) ∈ news) (hdc : (dc, curveObj w k1 k2 k3 low t1 high t2 most t3) ∈ news) (hne : @Ne Nat c dc)
    (h0 : 0 ≤ low) (h1 : low < high) (h2 : high < 1000) (h3 : 0 ≤ most) (h4 : most < 1000) (h5 : 0 ≤ level) (h6 : level < 100000) :
    Claim w 3 117 [.ref c, .int level t4, .int told t5] news (fun r news' => r = .bool (decide (told < v)) ∧ news' = news) := by
  refine claim_conv fun h₀ L h N => ?_
  refine ⟨_, _, drops_c hc hdc hne h0 h1 h2 h3 h4 h5 h6, fun _ hp => hp, ?_⟩
  rintro r n1 ⟨q, rfl, rfl, rfl⟩
  exact ⟨_, ⟨by rw [hv], rfl⟩, fun _ hp => hp⟩
end Mine
end
section
open PySem PySem.W PySem.Calls PyProof.Rows
set_option maxRecDepth 100000
set_option linter.unusedVariables false
namespace Mine
local macro_rules | `(tactic| k_room) => `(tactic| ktr_room)
local macro_rules | `(tactic| k_units) => `(tactic| ktr_units)

theorem big_nonneg (x : Int) (P : Prop) [Decidable P] : 0 ≤ (if -1 - x > x then -1 - x else x) * (if decide P = true then 1 else 0) := by
  refine Int.mul_nonneg ?_ ?_
  · split <;> omega
  · split <;> decide

set_option maxHeartbeats 8000000 in
theorem pool_use {w : World} {l : Addr} {vs : List Value} {ns : List Int} {k : Int} {t1 : Tok} {news : List (Addr × Obj)}
    {mean : ExcName → Option Value} {mg mb : Str → Option Value} {dp un : Nat} {gd : Option (List Code)} {cn : Str} {cs : Scope} {a : Addr} {ccd : Value} {cl : List (Str × Addr)} {outer : List Env} {A₀ : Around} {base h₀ : Heap} {L : Addr} {m : Str → Option Value} {s : Shared} {Q E : Value → Shared → Prop}
    (B : Below A₀ base outer h₀) (F : Fr h₀ L s.heap m) (X : (hd.heap_39 w.params).In h₀) (N : News h₀ L s.heap news) (T : Top hd.view_39 (looseW hd.view_39 [Str.ofString "SettingError"]) mean mg mb h₀) (hk : cs.kind = .function)
    (hl : base.IsList l vs.toArray) (hi : IntsAre vs ns) (hlen : ns.length < 2 ^ 62) (hlay : PyData.layable0 (.list (ns.map .int)) = true) (h0 : 0 ≤ k) (h1 : k < 10) 
    (hd : dp + 2 < recursionLimit) (hu : un + 16 < cLine)
    (ret : ∀ (sa : Addr) (b m' : Int) (t2 t3 : Tok) (n : Nat) h' tk', 0 ≤ b → 0 ≤ m' → m' < 2147483647 → (∀ p ∈ news, p.1 < sa) → Fr h₀ L h' m → News h₀ L h' ((sa, listOf #[.int b t2, .int m' t3] n) :: news) → Q (.ref sa) { s with heap := h', toks := tk' }) :
    wpAny (model PySem.Challenge.rw_pc0359_01.row.prog w) (ktrTop dp un gd cn cs L a ccd cl outer) (call (.ref 180) [.ref l, .int k t1]) Q E s := by
  k_with_none
  w_top off
  revert X; k_fill; intro X
  refine wpAny_call ?_
  k_dflt cell_enter
  k_steps
  · exact ret _ _ _ _ _ _ _ _ (big_nonneg _ _) (fmod_lo _ (by decide)) (fmod_hi _ (by decide)) (by assumption) (by k_asm) (by k_asm)
  · exact ret _ _ _ _ _ _ _ _ (big_nonneg _ _) (fmod_lo _ (by decide)) (fmod_hi _ (by decide)) (by assumption) (by k_asm) (by k_asm)

end Mine
end
section
open PySem PySem.W PySem.Spec PySem.Calls PyProof.Rows PyProof.V
set_option maxRecDepth 100000
namespace Mine
abbrev tupObj (s n : Int) (t u : Tok) (k : Nat) : Obj := { cls := .type "tuple", data := .seq #[.int s t, .int n u] k }
inductive Tups (Z : List (Addr × Obj)) : List Value → List (Int × Int) → Prop
  | nil : Tups Z [] []
  | cons {a : Addr} {s n : Int} {t u : Tok} {k : Nat} {vs : List Value} {xs : List (Int × Int)} (hm : (a, tupObj s n t u k) ∈ Z) (r : Tups Z vs xs) : Tups Z (.ref a :: vs) ((s, n) :: xs)
theorem Tups.mono {Z Z' : List (Addr × Obj)} (h : ∀ p ∈ Z, p ∈ Z') {vs : List Value} {xs : List (Int × Int)} (T : Tups Z vs xs) : Tups Z' vs xs := by
  induction T with
  | nil => exact .nil
  | cons hm _ ih => exact .cons (h _ hm) ih
theorem Tups.length {Z : List (Addr × Obj)} {vs : List Value} {xs : List (Int × Int)} (T : Tups Z vs xs) : vs.length = xs.length := by
  induction T with
  | nil => rfl
  | cons _ _ ih => simp [ih]
theorem Tups.append {Z : List (Addr × Obj)} {vs : List Value} {xs : List (Int × Int)} (T : Tups Z vs xs) {a : Addr} {s n : Int} {t u : Tok} {k : Nat} (hm : (a, tupObj s n t u k) ∈ Z) : Tups Z (vs ++ [.ref a]) (xs ++ [(s, n)]) := by
  induction T with
  | nil => exact .cons hm .nil
  | cons h _ ih => exact .cons h ih
theorem Tups.get {Z : List (Addr × Obj)} {vs : List Value} {xs : List (Int × Int)} (T : Tups Z vs xs) : ∀ (i : Nat) (v : Value), vs[i]? = some v → ∃ a s n t u k, v = .ref a ∧ (a, tupObj s n t u k) ∈ Z ∧ xs[i]? = some (s, n) := by
  induction T with
  | nil => intro i v h; simp at h
  | cons hm _ ih =>
    intro i v h
    cases i with
    | zero => simp at h; exact ⟨_, _, _, _, _, _, h.symm, hm, by simp⟩
    | succ i => simp at h; obtain ⟨a, s, n, t, u, k, h1, h2, h3⟩ := ih i v h; exact ⟨a, s, n, t, u, k, h1, h2, by simpa using h3⟩
def tupDats (xs : List (Int × Int)) : List Dat := xs.map fun q => .tuple [.int q.1, .int q.2]
theorem Tups.dats {Z : List (Addr × Obj)} {vs : List Value} {xs : List (Int × Int)} (T : Tups Z vs xs) : DatAll Z vs (tupDats xs) := by
  induction T with
  | nil => exact .nil
  | cons hm _ ih => exact .cons (.tuple (vs := [_, _]) hm (.cons (.int _ _) (.cons (.int _ _) .nil))) ih
theorem tupDats_ok (xs : List (Int × Int)) : ∀ d ∈ tupDats xs, kqdOk 8 d = true := by
  intro d hd
  obtain ⟨q, _, rfl⟩ := List.mem_map.mp hd
  rfl
def tot (xs : List (Int × Int)) : Int := (xs.map (·.1)).sum
theorem tot_cons (a : Int × Int) (xs : List (Int × Int)) : tot (a :: xs) = a.1 + tot xs := by simp [tot]
theorem tot_snoc (a : Int × Int) (xs : List (Int × Int)) : tot (xs ++ [a]) = tot xs + a.1 := by simp [tot, List.sum_append]
theorem tot_nonneg {xs : List (Int × Int)} (h : ∀ q ∈ xs, 0 ≤ q.1) : 0 ≤ tot xs := by
  induction xs with
  | nil => simp [tot]
  | cons a xs ih => rw [tot_cons]; have := h a (.head _); have := ih fun q hq => h q (.tail _ hq); omega

section
variable {prog : Program} {w : World} {A : Around} {E : Value → Shared → Prop} {s : Shared} {h₀ : Heap} {L D a b : Addr} {m : Str → Option Value} {news : List (Addr × Obj)} {Q : Value → Shared → Prop}
theorem append_st {us : List Value} {n : Nat} {x : Value} {g : Obj → List (Addr × Obj)} (F : Fr h₀ L s.heap m) (N : News h₀ L s.heap news) (U : UpdF D (listOf us.toArray n) news g) (hz : us.length ≤ 1000)
    (h : ∀ h' n', Fr h₀ L h' m → News h₀ L h' (g (listOf (us ++ [x]).toArray n')) → Q .none { s with heap := h' }) : wpAny (model prog w) A (call (.builtin "list.append") [.ref D, x]) Q E s := by
  obtain ⟨pre, post, rfl, hg, p1, p2⟩ := U.split
  have z := N (D, listOf us.toArray n) (List.mem_append.mpr (.inr (.head _)))
  refine append_at (hsz := by rw [List.size_toArray, PySem.sizeLine_eq]; omega) z.1 fun h' hs ho' => h h' (n + 1) (F.change hs z.2.1 z.2.2) ?_
  rw [hg]
  refine news_set N p1 p2 hs ?_
  rw [ho', List.push_toArray]
theorem pop0_st {us : List Value} {n : Nat} {y : Value} {u : Tok} {g : Obj → List (Addr × Obj)} (F : Fr h₀ L s.heap m) (N : News h₀ L s.heap news) (U : UpdF D (listOf (y :: us).toArray n) news g) (hz : us.length < 1000)
    (h : ∀ h' n', Fr h₀ L h' m → News h₀ L h' (g (listOf us.toArray n')) → Q y { s with heap := h' }) : wpAny (model prog w) A (call (.builtin "list.pop") [.ref D, .int 0 u]) Q E s := by
  obtain ⟨pre, post, rfl, hg, p1, p2⟩ := U.split
  have z := N (D, listOf (y :: us).toArray n) (List.mem_append.mpr (.inr (.head _)))
  have hz' : (y :: us).toArray.size ≤ sizeLine := by rw [List.size_toArray, List.length_cons, PySem.sizeLine_eq]; omega
  have hk : seqIndex? 0 (y :: us).toArray.size = some 0 := by
    rw [List.size_toArray, List.length_cons]
    unfold seqIndex?
    simp
    try omega
  refine call_meets PySem.F.slot_list_pop ⟨_, z.1, rfl⟩ PySem.F.entry_list_pop (PySem.F.args_list_pop_2 _ _) (PySem.MeetsSeq.list_pop_at D _ n 0 u 0 y (by rfl) hk (by simp) hz') ⟨z.1, h _ (n + 1) (F.change (Heap.SameBut.update ..) z.2.1 z.2.2) ?_⟩
  rw [hg]
  refine kl_turn _ N p1 p2 ?_ ?_
  · exact kl_erase [] us y
  · rw [List.size_toArray, List.size_toArray, List.length_cons]
    omega
theorem ne_tups {x y : Int} {t1 t2 u1 u2 : Tok} {ka kb : Nat} (N : News h₀ L s.heap news) (ma : (a, tupObj x y t1 u1 ka) ∈ news) (mb : (b, tupObj x y t2 u2 kb) ∈ news) (hu : A.units + 64 < cLine)
    (h : Q (.bool false) s) : wpAny (model prog w) A (compareOp .NotEq (.ref a) (.ref b)) Q E s := by
  have rr : ∀ c t u k, (c, tupObj x y t u k) ∈ news → ∃ as, Reads s.heap (.ref c) (.tuple [.int x, .int y]) as := fun c t u k hm =>
    ⟨_, reads_tuple_at (N.get hm) rfl rfl (ReadsAll.cons (.int x t) (.cons (.int y u) .nil))⟩
  obtain ⟨as, ra⟩ := rr a _ _ ka ma
  obtain ⟨bs, rb⟩ := rr b _ _ kb mb
  refine ne_dataH ra rb rfl rfl hu ?_
  have e : PyData.eqv (.tuple [.int x, .int y]) (.tuple [.int x, .int y]) = true := by simp [PyData.eqv, PyData.eqvAll]
  rw [e]
  exact h
open Classical in
theorem eq_lists {vs us : List Value} {xs : List (Int × Int)} {ka kb : Nat} {Z : List (Addr × Obj)} (N : News h₀ L s.heap news) (ma : (a, listOf vs.toArray ka) ∈ news) (mb : (b, listOf us.toArray kb) ∈ news) (hZ : ∀ p ∈ Z, p ∈ news) (Ta : Tups Z vs xs) (Tb : Tups Z us xs) (hu : A.units + 64 < cLine)
    (h : Q (.bool true) s) : wpAny (model prog w) A (compareOp .Eq (.ref a) (.ref b)) Q E s := by
  refine kqd_eq N ma rfl rfl Ta.dats hZ mb rfl rfl Tb.dats hZ (tupDats_ok xs) (tupDats_ok xs) hu ?_
  rw [decide_eq_true rfl]
  exact h
open Classical in
theorem ne_nil_cons {vs : List Value} {x : Int × Int} {xs : List (Int × Int)} {ka kb : Nat} {Z : List (Addr × Obj)} (N : News h₀ L s.heap news) (ma : (a, listOf vs.toArray ka) ∈ news) (mb : (b, listOf #[] kb) ∈ news) (hZ : ∀ p ∈ Z, p ∈ news) (Ta : Tups Z vs (x :: xs)) (hu : A.units + 64 < cLine)
    (h : Q (.bool true) s) : wpAny (model prog w) A (compareOp .NotEq (.ref a) (.ref b)) Q E s := by
  refine kqd_ne N ma rfl rfl Ta.dats hZ (ys := []) mb rfl rfl (DatAll.nil (news := Z)) hZ (tupDats_ok _) (by simp) hu ?_
  rw [decide_eq_false (by simp [tupDats])]
  exact h
open Classical in
theorem ne_nil_nil {ka kb : Nat} (N : News h₀ L s.heap news) (ma : (a, listOf #[] ka) ∈ news) (mb : (b, listOf #[] kb) ∈ news) (hu : A.units + 64 < cLine)
    (h : Q (.bool false) s) : wpAny (model prog w) A (compareOp .NotEq (.ref a) (.ref b)) Q E s := by
  refine kqd_ne N (xs := []) ma rfl rfl (DatAll.nil (news := news)) (fun _ h => h) (ys := []) mb rfl rfl (DatAll.nil (news := news)) (fun _ h => h) (by simp) (by simp) hu ?_
  rw [decide_eq_true rfl]
  exact h
theorem len_st {vs : List Value} {n : Nat} {k : Nat} (N : News h₀ L s.heap news) (hm : (D, listOf vs.toArray n) ∈ news) (hk : vs.length = k) (hz : k < 1000)
    (h : ∀ (t : Tok) tk, Q (.int k t) { s with toks := tk }) : wpAny (model prog w) A (call (.builtin "len") [.ref D]) Q E s := by
  subst hk
  refine PySem.Calls.call_len_list (News.isList N hm) (by rw [List.size_toArray]; omega) ?_
  rw [List.size_toArray]
  exact h _ _
end
section
variable {prog : Program} {w : World} {A : Around} {h₀ : Heap} {L : Addr} {m : Str → Option Value} {env : Env} {elt : Expr} {x x₂ : Str} {scope : Scope} {cl : List (Str × Addr)} {s : Shared} {S : List (Addr × Obj) → Prop} {Fin : List Value → List (Addr × Obj) → Prop}
theorem sizes_comp {news Z : List (Addr × Obj)} {vs : List Value} {xs : List (Int × Int)} {n : Nat} (T : Tups Z vs xs) (hZ : ∀ p ∈ Z, p ∈ news) (hn : vs.toArray.size = n)
    (turn : ∀ (a b : Int) (t u : Tok) ys I oI C oC D m₂ h tk (E' : Value → Shared → Prop), LCg.NsObj oC m₂ → m₂ x = some (.int a t) → m₂ x₂ = some (.int b u) → Fr h₀ L h m → News h₀ L h ((I, oI) :: (C, oC) :: (D, LCg.lst ys) :: news) → LCg.Off3 I C D news → ((@Ne Nat I C) ∧ (@Ne Nat I D) ∧ (@Ne Nat C D)) →
      wpAny (model prog w) A (eval elt (compEnvC scope cl C env)) (LCg.CompEnd h₀ L m { s with heap := h, toks := tk } I oI C oC D (LCg.lst ys) S (fun y news' => ∃ t', news' = news ∧ y = .int a t')) E' { s with heap := h, toks := tk })
    (fin : ∀ ys, IntsAre ys (xs.map (·.1)) → Fin ys news) : LCp.CompRestP prog w A h₀ L m env elt x x₂ scope cl s S (fun i v => vs.toArray[i]? = some v) Fin n 0 [] news := by
  subst hn
  have key : ∀ (j i : Nat) (ys : List Value), i + j = vs.length → IntsAre ys ((xs.take i).map (·.1)) → LCp.CompRestP prog w A h₀ L m env elt x x₂ scope cl s S (fun i v => vs.toArray[i]? = some v) Fin j i ys news := by
    intro j
    induction j with
    | zero =>
      intro i ys hi hy
      refine LCp.CompRestP.zero (fin ys ?_)
      rw [List.take_of_length_le (by rw [← T.length]; omega)] at hy
      exact hy
    | succ j ih =>
      intro i ys hi hy
      refine LCp.CompRestP.succ ?_
      intro v hv
      obtain ⟨a, sz, nm, t, u, k, rfl, hm, hx⟩ := T.get i v (by simpa using hv)
      refine ⟨a, _, _, _, k, rfl, hZ _ hm, rfl, rfl, ?_⟩
      intro I oI C oC D m₂ h tk E' hC hx1 hx2 F N off ne
      refine wpAny_mono (turn sz nm t u ys I oI C oC D m₂ h tk E' hC hx1 hx2 F N off ne) (fun y s₂ hq => ?_) fun _ _ e => e
      obtain ⟨h', tk', nw, e, F', N', off', hS, t', hn, hy'⟩ := hq
      subst hn
      subst hy'
      refine ⟨h', tk', _, e, F', N', off', hS, ih (i + 1) _ (by omega) ?_⟩
      have e1 : (xs.take (i + 1)).map (·.1) = (xs.take i).map (·.1) ++ [sz] := by rw [List.take_add_one, hx]; simp
      rw [e1]
      exact IntsAre.append hy (.cons sz t' .nil)
  rw [List.size_toArray]
  exact key _ 0 [] (by omega) .nil
end
end Mine
end
section
open PySem PySem.W PySem.Spec PySem.Calls PyProof.Rows PyProof.V
set_option maxRecDepth 100000
namespace Mine
abbrev rowObj (w : World) (k1 k2 k3 k4 k5 t1 : Tok) (room : Int) (t2 : Tok) (th : Addr) (oc : Int) (t3 : Tok) (dd : Int) (t4 : Tok) : Obj :=
  dictOf [⟨PyData.keyHash w.params (Str.ofString "most"), .str (Str.ofString "most") k1, .int 99 t1⟩, ⟨PyData.keyHash w.params (Str.ofString "most_octets"), .str (Str.ofString "most_octets") k2, .int room t2⟩, ⟨PyData.keyHash w.params (Str.ofString "things"), .str (Str.ofString "things") k3, .ref th⟩,
    ⟨PyData.keyHash w.params (Str.ofString "octets"), .str (Str.ofString "octets") k4, .int oc t3⟩, ⟨PyData.keyHash w.params (Str.ofString "dropped"), .str (Str.ofString "dropped") k5, .int dd t4⟩] 5
/-- the addresses and values that stay -/
structure QF where
  (sa c dc ba rw dr th ow x dx tl : Addr)
  (shift room : Int)
  (tsh trm : Tok)
  (fix : List (Addr × Obj))
/-- what turns -/
structure QS where
  (b m p oc dd : Int)
  (u3 u4 kA kB tS tP tp k1 k2 k3 k4 k5 r1 r2 r3 r4 : Tok)
  (n1 nv1 nv2 nt : Nat)
  (v1 v2 tv : List Value)
  (tl : List Int)
  (xs : List (Int × Int))
  (tups : List (Addr × Obj))
  (u : Str → Option Value)
abbrev qM (f : QF) (p : Int) (tp : Tok) (u : Str → Option Value) : Str → Option Value := fun y =>
  if y = Str.ofString "parts" then some (.int p tp) else if y = Str.ofString "told" then some (.ref f.tl) else if y = Str.ofString "own" then some (.ref f.ow) else if y = Str.ofString "row" then some (.ref f.rw) else if y = Str.ofString "average" then some (.ref f.x)
  else if y = Str.ofString "source" then some (.ref f.sa) else if y = Str.ofString "shift" then some (.int f.shift f.tsh) else if y = Str.ofString "curve" then some (.ref f.c) else if y = Str.ofString "bounds" then some (.ref f.ba) else if y = Str.ofString "room" then some (.int f.room f.trm) else u y
def QN (f : QF) (m : Str → Option Value) (p : Int) : Prop :=
  (∃ t, m (Str.ofString "parts") = some (.int p t)) ∧ m (Str.ofString "told") = some (.ref f.tl) ∧ m (Str.ofString "own") = some (.ref f.ow) ∧ m (Str.ofString "row") = some (.ref f.rw) ∧ m (Str.ofString "average") = some (.ref f.x) ∧
  m (Str.ofString "source") = some (.ref f.sa) ∧ m (Str.ofString "shift") = some (.int f.shift f.tsh) ∧ m (Str.ofString "curve") = some (.ref f.c) ∧ m (Str.ofString "bounds") = some (.ref f.ba) ∧ m (Str.ofString "room") = some (.int f.room f.trm)
theorem QN.eq {f : QF} {m : Str → Option Value} {p : Int} (h : QN f m p) : ∃ t, m = qM f p t m := by
  obtain ⟨⟨t, h0⟩, h1, h2, h3, h4, h5, h6, h7, h8, h9⟩ := h
  refine ⟨t, ?_⟩
  funext y
  unfold qM
  by_cases e0 : y = Str.ofString "parts"
  · rw [if_pos e0, e0, h0]
  rw [if_neg e0]
  by_cases e1 : y = Str.ofString "told"
  · rw [if_pos e1, e1, h1]
  rw [if_neg e1]
  by_cases e2 : y = Str.ofString "own"
  · rw [if_pos e2, e2, h2]
  rw [if_neg e2]
  by_cases e3 : y = Str.ofString "row"
  · rw [if_pos e3, e3, h3]
  rw [if_neg e3]
  by_cases e4 : y = Str.ofString "average"
  · rw [if_pos e4, e4, h4]
  rw [if_neg e4]
  by_cases e5 : y = Str.ofString "source"
  · rw [if_pos e5, e5, h5]
  rw [if_neg e5]
  by_cases e6 : y = Str.ofString "shift"
  · rw [if_pos e6, e6, h6]
  rw [if_neg e6]
  by_cases e7 : y = Str.ofString "curve"
  · rw [if_pos e7, e7, h7]
  rw [if_neg e7]
  by_cases e8 : y = Str.ofString "bounds"
  · rw [if_pos e8, e8, h8]
  rw [if_neg e8]
  by_cases e9 : y = Str.ofString "room"
  · rw [if_pos e9, e9, h9]
  rw [if_neg e9]
abbrev qL (w : World) (f : QF) (Z : List (Addr × Obj)) (b m p oc dd : Int) (u3 u4 kA kB tS tP k1 k2 k3 k4 k5 r1 r2 r3 r4 : Tok) (n1 nv1 nv2 nt : Nat) (v1 v2 tv : List Value) : List (Addr × Obj) :=
  (f.sa, listOf #[.int b u3, .int m u4] n1) :: (f.rw, instObj 169 f.dr) :: (f.dr, rowObj w k1 k2 k3 k4 k5 r1 f.room r2 f.th oc r3 dd r4) :: (f.th, listOf v1.toArray nv1) :: (f.ow, listOf v2.toArray nv2) :: (f.x, instObj 85 f.dx) :: (f.dx, avgObj w kA kB f.shift tS p tP) :: (f.tl, listOf tv.toArray nt) :: Z
def QS.led (w : World) (f : QF) (c : QS) : List (Addr × Obj) := qL w f (c.tups ++ f.fix) c.b c.m c.p c.oc c.dd c.u3 c.u4 c.kA c.kB c.tS c.tP c.k1 c.k2 c.k3 c.k4 c.k5 c.r1 c.r2 c.r3 c.r4 c.n1 c.nv1 c.nv2 c.nt c.v1 c.v2 c.tv
/-- what holds of it after k turns -/
structure QJ (f : QF) (b m p oc : Int) (dd : Int) (v1 v2 tv : List Value) (tl : List Int) (xs : List (Int × Int)) (Z : List (Addr × Obj)) (k : Int) : Prop where
  hb : 0 ≤ b
  hm : 0 ≤ m
  hm' : m < 2147483647
  t1 : Tups Z v1 xs
  t2 : Tups Z v2 xs
  sz : ∀ q ∈ xs, 0 ≤ q.1
  hoc : oc = tot xs
  hroom : oc ≤ f.room
  len : (xs.length : Int) ≤ k
  told : IntsAre tv tl
  zero : 0 ∈ tl
  tb : ∀ a ∈ tl, 0 ≤ a ∧ a ≤ f.room
  tlen : (tl.length : Int) ≤ k + 1
  p0 : 0 ≤ p
  pm : ∀ M, (∀ a ∈ tl, a ≤ M) → p < (M + 1) * 2 ^ f.shift.toNat
  d0 : 0 ≤ dd
  d1 : dd ≤ k
theorem QJ.pbound {f : QF} {b m p oc : Int} {dd : Int} {v1 v2 tv : List Value} {tl : List Int} {xs : List (Int × Int)} {Z : List (Addr × Obj)} {k : Int} (j : QJ f b m p oc dd v1 v2 tv tl xs Z k) (h0 : 0 ≤ f.shift) (h1 : f.shift < 4) (hr : f.room < 50) : p < 1000 := by
  have := j.pm 49 fun a ha => by have := (j.tb a ha).2; omega
  rcases pow_cases h0 h1 with e | e | e | e <;> rw [e] at this <;> omega

section
variable {prog : Program} {w : World} {A : Around} {E : Value → Shared → Prop} {s : Shared} {env : Env} {h₀ : Heap} {x : Str} {body : List Stmt} {Q : Flow → Shared → Prop}
theorem queue_loop {r : Addr} {b₀ : Int} {t₀ u₀ v₀ : Tok} {n : Nat} {m₀ : Str → Option Value} {news : List (Addr × Obj)} (f : QF) (c₀ : QS)
    (hh : A.handled = none) (hr : IsRange s.heap r 0 b₀ 1 t₀ u₀ v₀) (hsmall : Builtin.Range.small 0 b₀ 1 = true) (hsz : Builtin.Range.rangeSize 0 b₀ 1 = (n : Int)) (F : Fr h₀ env.locals s.heap m₀) (N : News h₀ env.locals s.heap news)
    (hm : QN f m₀ c₀.p) (hn : ∀ p ∈ c₀.led w f, p ∈ news) (hj : QJ f c₀.b c₀.m c₀.p c₀.oc c₀.dd c₀.v1 c₀.v2 c₀.tv c₀.tl c₀.xs c₀.tups 0) (ht₀ : ∀ p ∈ c₀.tups, f.tl < p.1)
    (hlt : (@LT.lt Nat _ f.sa f.tl) ∧ (@LT.lt Nat _ f.dr f.tl) ∧ (@LT.lt Nat _ f.th f.tl) ∧ (@LT.lt Nat _ f.ow f.tl) ∧ (@LT.lt Nat _ f.dx f.tl)) (hfix : OwnOff f.fix [f.sa, f.dr, f.th, f.ow, f.dx, f.tl])
    (turn : ∀ (k : Int) (t : Tok) (h : Heap) (tk : Nat) (Z T : List (Addr × Obj)) (b m p oc dd : Int) (u3 u4 kA kB tS tP tp k1 k2 k3 k4 k5 r1 r2 r3 r4 : Tok) (n1 nv1 nv2 nt : Nat) (v1 v2 tv : List Value) (tl : List Int) (xs : List (Int × Int)) (u : Str → Option Value) (R : Flow → Shared → Prop),
      0 ≤ k → k < n → OwnOff Z [f.sa, f.dr, f.th, f.ow, f.dx, f.tl] → (∀ p ∈ f.fix, p ∈ Z) → (∀ p ∈ T, p ∈ Z) → QJ f b m p oc dd v1 v2 tv tl xs T k →
      Fr h₀ env.locals h (fun y => if y = x then some (.int k t) else qM f p tp u y) → News h₀ env.locals h (qL w f Z b m p oc dd u3 u4 kA kB tS tP k1 k2 k3 k4 k5 r1 r2 r3 r4 n1 nv1 nv2 nt v1 v2 tv) →
      (∀ (fl : Flow) (h' : Heap) (tk' : Nat) (m' : Str → Option Value) (nw : List (Addr × Obj)) (b m p oc dd : Int) (u3 u4 kA kB tS tP k1 k2 k3 k4 k5 r1 r2 r3 r4 : Tok) (n1 nv1 nv2 nt : Nat) (v1 v2 tv : List Value) (tl : List Int) (xs : List (Int × Int)),
        (fl = .next ∨ fl = .cont) → QN f m' p → (∀ p ∈ nw, f.tl < p.1) → OwnOff Z (nw.map (·.1)) → QJ f b m p oc dd v1 v2 tv tl xs (nw ++ T) (k + 1) → Fr h₀ env.locals h' m' → News h₀ env.locals h' (qL w f (nw ++ Z) b m p oc dd u3 u4 kA kB tS tP k1 k2 k3 k4 k5 r1 r2 r3 r4 n1 nv1 nv2 nt v1 v2 tv) → R fl { s with heap := h', toks := tk' }) →
      wpAny (model prog w) A (execs body env) R E { s with heap := h, toks := tk })
    (done : ∀ (h : Heap) (tk : Nat) (Z T : List (Addr × Obj)) (b m p oc dd : Int) (u3 u4 kA kB tS tP tp k1 k2 k3 k4 k5 r1 r2 r3 r4 : Tok) (n1 nv1 nv2 nt : Nat) (v1 v2 tv : List Value) (tl : List Int) (xs : List (Int × Int)) (u : Str → Option Value),
      OwnOff Z [f.sa, f.dr, f.th, f.ow, f.dx, f.tl] → (∀ p ∈ f.fix, p ∈ Z) → (∀ p ∈ T, p ∈ Z) → QJ f b m p oc dd v1 v2 tv tl xs T n →
      Fr h₀ env.locals h (qM f p tp u) → News h₀ env.locals h (qL w f Z b m p oc dd u3 u4 kA kB tS tP k1 k2 k3 k4 k5 r1 r2 r3 r4 n1 nv1 nv2 nt v1 v2 tv) → Q .next { s with heap := h, toks := tk }) :
    wpAny (model prog w) A (pyIter (.ref r)) (fun it s₂ => LoopAtV prog w A h₀ env x body Q E it s₂) E s := by
  refine range_state (σ := QS) (n := n) (fun c => qM f c.p c.tp c.u) (fun c => c.led w f) (fun i c => QJ f c.b c.m c.p c.oc c.dd c.v1 c.v2 c.tv c.tl c.xs c.tups (i : Int) ∧ ∀ p ∈ c.tups, f.tl < p.1) { c₀ with u := m₀, tp := hm.eq.choose } hh hr hsmall hsz F N hm.eq.choose_spec hn ⟨hj, ht₀⟩ ?_ ?_
  · rintro i c t h tk own hi ⟨hJ, hT⟩ hown F₁ N₁
    have hoff : OwnOff (c.tups ++ f.fix ++ own) [f.sa, f.dr, f.th, f.ow, f.dx, f.tl] := by
      intro p hp b hb
      rcases List.mem_append.mp hp with hp | hp
      · rcases List.mem_append.mp hp with hp | hp
        · have h1 := hT p hp
          obtain ⟨l1, l2, l3, l4, l5⟩ := hlt
          simp only [List.mem_cons, List.not_mem_nil, or_false] at hb
          rcases hb with rfl | rfl | rfl | rfl | rfl | rfl
          · exact Nat.ne_of_gt (Nat.lt_trans l1 h1)
          · exact Nat.ne_of_gt (Nat.lt_trans l2 h1)
          · exact Nat.ne_of_gt (Nat.lt_trans l3 h1)
          · exact Nat.ne_of_gt (Nat.lt_trans l4 h1)
          · exact Nat.ne_of_gt (Nat.lt_trans l5 h1)
          · exact Nat.ne_of_gt h1
        · exact hfix p hp b hb
      · refine hown p hp b ?_
        simp only [QS.led, qL, List.map_cons, List.mem_cons, List.not_mem_nil, or_false] at hb ⊢
        rcases hb with rfl | rfl | rfl | rfl | rfl | rfl <;> simp
    refine turn (i : Int) t h tk (c.tups ++ f.fix ++ own) c.tups c.b c.m c.p c.oc c.dd c.u3 c.u4 c.kA c.kB c.tS c.tP c.tp c.k1 c.k2 c.k3 c.k4 c.k5 c.r1 c.r2 c.r3 c.r4 c.n1 c.nv1 c.nv2 c.nt c.v1 c.v2 c.tv c.tl c.xs c.u _ (by omega) (by omega) hoff (fun p hp => by simp [hp]) (fun p hp => by simp [hp]) hJ ?_ ?_ ?_
    · simpa using F₁
    · refine news_sub N₁ ?_
      intro p hp
      simp only [QS.led, qL, List.cons_append, List.append_assoc] at hp ⊢
      exact hp
    · intro fl h' tk' m' nw b m p oc dd u3 u4 kA kB tS tP k1 k2 k3 k4 k5 r1 r2 r3 r4 n1 nv1 nv2 nt v1 v2 tv tl xs hfl hq hnw hz hJ' F' N'
      obtain ⟨tp', hm'⟩ := hq.eq
      have key : InvEndG h₀ env.locals (fun m' nx => ∃ c' : QS, m' = qM f c'.p c'.tp c'.u ∧ nx = c'.led w f ∧ (QJ f c'.b c'.m c'.p c'.oc c'.dd c'.v1 c'.v2 c'.tv c'.tl c'.xs c'.tups ((i + 1 : Nat) : Int) ∧ ∀ p ∈ c'.tups, f.tl < p.1)) own { s with heap := h, toks := tk } { s with heap := h', toks := tk' } := by
        refine InvEndG.intro (s₁ := { s with heap := h, toks := tk }) F' N' ⟨⟨b, m, p, oc, dd, u3, u4, kA, kB, tS, tP, tp', k1, k2, k3, k4, k5, r1, r2, r3, r4, n1, nv1, nv2, nt, v1, v2, tv, tl, xs, nw ++ c.tups, m'⟩, hm', rfl, ?_, ?_⟩ ?_ ?_ ?_
        · rw [show ((i + 1 : Nat) : Int) = (i : Int) + 1 by omega]
          exact hJ'
        · intro q hq
          rcases List.mem_append.mp hq with hq | hq
          · exact hnw q hq
          · exact hT q hq
        · intro q hq b hb
          simp only [QS.led, qL, List.map_cons, List.map_append, List.mem_cons, List.mem_append] at hb
          have old : ∀ b, b ∈ (c.led w f).map (·.1) → q.1 ≠ b := hown q hq
          simp only [QS.led, qL, List.map_cons, List.map_append, List.mem_cons, List.mem_append] at old
          rcases hb with h1 | h1 | h1 | h1 | h1 | h1 | h1 | h1 | (h1 | h1) | h1
          · exact old b (by simp [h1])
          · exact old b (by simp [h1])
          · exact old b (by simp [h1])
          · exact old b (by simp [h1])
          · exact old b (by simp [h1])
          · exact old b (by simp [h1])
          · exact old b (by simp [h1])
          · exact old b (by simp [h1])
          · exact hz q (by simp [hq]) b h1
          · exact old b (by simp [h1])
          · exact old b (by simp [h1])
        · intro q hq
          simp only [QS.led, qL, List.mem_cons, List.mem_append] at hq ⊢
          rcases hq with h1 | h1 | h1 | h1 | h1 | h1 | h1 | h1 | (h1 | h1) | h1 <;> simp [h1]
        · intro q hq
          simp [hq]
      rcases hfl with rfl | rfl
      · exact key
      · exact key
  · rintro c h tk ⟨hJ, hT⟩ F₁ N₁
    refine done h tk (c.tups ++ f.fix) c.tups c.b c.m c.p c.oc c.dd c.u3 c.u4 c.kA c.kB c.tS c.tP c.tp c.k1 c.k2 c.k3 c.k4 c.k5 c.r1 c.r2 c.r3 c.r4 c.n1 c.nv1 c.nv2 c.nt c.v1 c.v2 c.tv c.tl c.xs c.u ?_ (fun p hp => by simp [hp]) (fun p hp => by simp [hp]) hJ F₁ N₁
    intro p hp b hb
    rcases List.mem_append.mp hp with hp | hp
    · have h1 := hT p hp
      obtain ⟨l1, l2, l3, l4, l5⟩ := hlt
      simp only [List.mem_cons, List.not_mem_nil, or_false] at hb
      rcases hb with rfl | rfl | rfl | rfl | rfl | rfl
      · exact Nat.ne_of_gt (Nat.lt_trans l1 h1)
      · exact Nat.ne_of_gt (Nat.lt_trans l2 h1)
      · exact Nat.ne_of_gt (Nat.lt_trans l3 h1)
      · exact Nat.ne_of_gt (Nat.lt_trans l4 h1)
      · exact Nat.ne_of_gt (Nat.lt_trans l5 h1)
      · exact Nat.ne_of_gt h1
    · exact hfix p hp b hb
end
end Mine
end
section
open PySem PySem.W PySem.Spec PySem.Calls PyProof.Rows PyProof.V
set_option maxRecDepth 100000
namespace Mine
theorem QJ.mid {f : QF} {b m p oc dd b' m' : Int} {v1 v2 tv : List Value} {tl : List Int} {xs : List (Int × Int)} {Z : List (Addr × Obj)} {k : Int} (j : QJ f b m p oc dd v1 v2 tv tl xs Z k) (h0 : 0 ≤ b') (h1 : 0 ≤ m') (h2 : m' < 2147483647) : QJ f b' m' p oc dd v1 v2 tv tl xs Z k :=
  { j with hb := h0, hm := h1, hm' := h2 }
theorem QJ.pop {f : QF} {b m p oc dd b' m' s1 n1 oc' : Int} {a1 a2 : Value} {v1 v2 tv : List Value} {tl : List Int} {xs : List (Int × Int)} {Z : List (Addr × Obj)} {k : Int} (j : QJ f b m p oc dd (a1 :: v1) (a2 :: v2) tv tl ((s1, n1) :: xs) Z k) (h0 : 0 ≤ b') (h1 : 0 ≤ m') (h2 : m' < 2147483647) (ho : oc' = oc - s1) : QJ f b' m' p oc' dd v1 v2 tv tl xs Z k := by
  have e := j.hoc
  rw [tot_cons] at e
  have e1 := j.sz (s1, n1) (.head _)
  have e2 := j.hroom
  have e3 := j.len
  dsimp only at e e1
  rw [List.length_cons] at e3
  refine { j with hb := h0, hm := h1, hm' := h2, t1 := ?_, t2 := ?_, sz := fun q hq => j.sz q (.tail _ hq), hoc := by omega, hroom := by omega, len := by omega }
  · have := j.t1
    cases this
    assumption
  · have := j.t2
    cases this
    assumption
theorem QJ.pow {f : QF} (h0 : 0 ≤ f.shift) (h1 : f.shift < 4) : 0 < (2 : Int) ^ f.shift.toNat := by
  rcases pow_cases h0 h1 with e | e | e | e <;> rw [e] <;> decide
theorem QJ.stay {f : QF} {b m p oc dd b' m' p' dd' : Int} {v1 v2 tv : List Value} {tl : List Int} {xs : List (Int × Int)} {Z Z' : List (Addr × Obj)} {k : Int} {t : Tok} (j : QJ f b m p oc dd v1 v2 tv tl xs Z k) (hs0 : 0 ≤ f.shift) (hs1 : f.shift < 4)
    (h0 : 0 ≤ b') (h1 : 0 ≤ m') (h2 : m' < 2147483647) (hp : p' = avgStep f.shift p oc) (hd : dd' = dd ∨ dd' = dd + 1) (hZ : ∀ q ∈ Z, q ∈ Z') : QJ f b' m' p' oc dd' v1 v2 (tv ++ [.int oc t]) (tl ++ [oc]) xs Z' (k + 1) := by
  have hoc0 : 0 ≤ oc := by rw [j.hoc]; exact tot_nonneg j.sz
  have e1 := j.len
  have e2 := j.tlen
  have e3 := j.d0
  have e4 := j.d1
  have mem : ∀ a, a ∈ tl ++ [oc] ↔ a ∈ tl ∨ a = oc := by intro a; simp
  refine { hb := h0, hm := h1, hm' := h2, t1 := j.t1.mono hZ, t2 := j.t2.mono hZ, sz := j.sz, hoc := j.hoc, hroom := j.hroom, len := by omega, told := j.told.append (.cons oc t .nil), zero := by simp [j.zero], tb := ?_, tlen := by simp; omega, p0 := ?_, pm := ?_, d0 := by omega, d1 := by omega }
  · intro a ha
    rcases (mem a).mp ha with ha | rfl
    · exact j.tb a ha
    · exact ⟨hoc0, j.hroom⟩
  · have hr : oc ≤ f.room := j.hroom
    have hM : ∀ a ∈ tl, a ≤ f.room := fun a ha => (j.tb a ha).2
    rw [hp]
    exact (avg_bounds (M := f.room) hs0 hs1 j.p0 (j.pm _ hM) hoc0 hr).1
  · intro M hM
    rw [hp]
    exact (avg_bounds (M := M) hs0 hs1 j.p0 (j.pm _ fun a ha => hM a ((mem a).mpr (.inl ha))) hoc0 (hM oc ((mem oc).mpr (.inr rfl)))).2
theorem QJ.grow {f : QF} {b m p oc dd oc' s1 n1 : Int} {v1 v2 tv : List Value} {tl : List Int} {xs : List (Int × Int)} {Z : List (Addr × Obj)} {k : Int} {p1 p2 : Addr} {t1 u1 t2 u2 : Tok} {c1 c2 : Nat} (j : QJ f b m p oc dd v1 v2 tv tl xs Z k) (hs : (xs.length : Int) + 1 ≤ k) (ho : oc' = oc + s1) (h0 : 0 ≤ s1) (hr : oc + s1 ≤ f.room)
    (m1 : (p1, tupObj s1 n1 t1 u1 c1) ∈ Z) (m2 : (p2, tupObj s1 n1 t2 u2 c2) ∈ Z) : QJ f b m p oc' dd (v1 ++ [.ref p1]) (v2 ++ [.ref p2]) tv tl (xs ++ [(s1, n1)]) Z k := by
  refine { j with t1 := j.t1.append m1, t2 := j.t2.append m2, sz := ?_, hoc := by rw [tot_snoc, ← j.hoc]; exact ho, hroom := by omega, len := by simp; omega }
  intro q hq
  rcases List.mem_append.mp hq with hq | hq
  · exact j.sz q hq
  · rw [List.mem_singleton.mp hq]; exact h0
/-- both: told, then put in -/
theorem QJ.both {f : QF} {b m p oc dd b' m' p' oc' s1 n1 : Int} {v1 v2 tv : List Value} {tl : List Int} {xs : List (Int × Int)} {Z Z' : List (Addr × Obj)} {k : Int} {t : Tok} {p1 p2 : Addr} {t1 u1 t2 u2 : Tok} {c1 c2 : Nat} (j : QJ f b m p oc dd v1 v2 tv tl xs Z k) (hs0 : 0 ≤ f.shift) (hs1 : f.shift < 4)
    (h0 : 0 ≤ b') (h1 : 0 ≤ m') (h2 : m' < 2147483647) (hp : p' = avgStep f.shift p oc) (hZ : ∀ q ∈ Z, q ∈ Z') (ho : oc' = oc + s1) (hn : 0 ≤ s1) (hr : oc + s1 ≤ f.room)
    (m1 : (p1, tupObj s1 n1 t1 u1 c1) ∈ Z') (m2 : (p2, tupObj s1 n1 t2 u2 c2) ∈ Z') : QJ f b' m' p' oc' dd (v1 ++ [.ref p1]) (v2 ++ [.ref p2]) (tv ++ [.int oc t]) (tl ++ [oc]) (xs ++ [(s1, n1)]) Z' (k + 1) :=
  (j.stay hs0 hs1 h0 h1 h2 hp (.inl rfl) hZ).grow (by have := j.len; omega) ho hn hr m1 m2
theorem off6 {Z : List (Addr × Obj)} {a1 a2 a3 a4 a5 a6 a : Addr} {o : Obj} (h : OwnOff Z [a1, a2, a3, a4, a5, a6]) (hm : (a, o) ∈ Z) : (@Ne Nat a a1) ∧ (@Ne Nat a a2) ∧ (@Ne Nat a a3) ∧ (@Ne Nat a a4) ∧ (@Ne Nat a a5) ∧ (@Ne Nat a a6) :=
  ⟨h _ hm a1 (by simp), h _ hm a2 (by simp), h _ hm a3 (by simp), h _ hm a4 (by simp), h _ hm a5 (by simp), h _ hm a6 (by simp)⟩
theorem rangeSize_toNat (b : Int) : Builtin.Range.rangeSize 0 b 1 = ((b.toNat : Nat) : Int) := by
  rw [rangeSize_nat]; simp
/-- seen is between the least and the greatest -/
theorem QJ.seen {f : QF} {b m p oc dd v : Int} {v1 v2 tv : List Value} {tl : List Int} {xs : List (Int × Int)} {Z : List (Addr × Obj)} {k M : Int} (j : QJ f b m p oc dd v1 v2 tv tl xs Z k) (hs0 : 0 ≤ f.shift) (hs1 : f.shift < 4)
    (hv : v = avgVal f.shift (avgStep f.shift p oc)) (hM : ∀ a ∈ tl ++ [oc], a ≤ M) : 0 ≤ v ∧ v ≤ M := by
  have hoc0 : 0 ≤ oc := by rw [j.hoc]; exact tot_nonneg j.sz
  have h1 := avg_bounds (M := M) hs0 hs1 j.p0 (j.pm _ fun a ha => hM a (by simp [ha])) hoc0 (hM oc (by simp))
  rw [hv]
  exact avgVal_bounds hs0 hs1 h1.1 h1.2
theorem QJ.seen0 {f : QF} {b m p oc dd v : Int} {v1 v2 tv : List Value} {tl : List Int} {xs : List (Int × Int)} {Z : List (Addr × Obj)} {k : Int} (j : QJ f b m p oc dd v1 v2 tv tl xs Z k) (hs0 : 0 ≤ f.shift) (hs1 : f.shift < 4)
    (hv : v = avgVal f.shift (avgStep f.shift p oc)) : 0 ≤ v ∧ v ≤ f.room := by
  refine j.seen hs0 hs1 hv ?_
  intro a ha
  rcases List.mem_append.mp ha with ha | ha
  · exact (j.tb a ha).2
  · rw [List.mem_singleton.mp ha]; exact j.hroom
theorem QJ.low {f : QF} {b m p oc dd M : Int} {v1 v2 tv : List Value} {tl : List Int} {xs : List (Int × Int)} {Z : List (Addr × Obj)} {k : Int} (j : QJ f b m p oc dd v1 v2 tv tl xs Z k) (hM : M ∈ tl ++ [oc]) (hM' : ∀ a ∈ tl ++ [oc], M ≤ a) : M ≤ 0 := hM' 0 (by simp [j.zero])

section
variable {prog : Program} {w : World} {A : Around} {E : Value → Shared → Prop} {s : Shared} {h₀ : Heap} {L D a b : Addr} {m : Str → Option Value} {news : List (Addr × Obj)} {Q : Value → Shared → Prop}
theorem sum_st {ys : List Value} {xs : List (Int × Int)} {n : Nat} (hh : A.handled = none) (F : Fr h₀ L s.heap m) (N : News h₀ L s.heap news) (hm : (D, listOf ys.toArray n) ∈ news) (hi : IntsAre ys (xs.map (·.1)))
    (h : ∀ h' tk t' lv, lv = tot xs → Fr h₀ L h' m → News h₀ L h' news → Q (.int lv t') { s with heap := h', toks := tk }) : wpAny (model prog w) A (call (.builtin "sum") [.ref D]) Q E s :=
  sumK hh F N (News.isList N hm) hi fun h' tk t' F' N' => h h' tk t' _ rfl F' N'
end
section
variable {prog : Program} {w : World} {A : Around} {E : Value → Shared → Prop} {s : Shared} {env : Env} {R : Flow → Shared → Prop}
def Cut (P : Shared → Prop) (f : Flow) (s : Shared) : Prop := f = .next ∧ P s
theorem execs_cut (P : Shared → Prop) {st : Stmt} {rest : List Stmt} (h : wpAny (model prog w) A (exec st env) (Cut P) E s) (k : ∀ s', P s' → wpAny (model prog w) A (execs rest env) R E s') : wpAny (model prog w) A (execs (st :: rest) env) R E s := by
  rw [execs_cons]
  refine wpAny_bind (wpAny_mono h (fun f s' hf => ?_) fun _ _ e => e)
  obtain ⟨rfl, hp⟩ := hf
  exact k s' hp
def QMid (w : World) (f : QF) (h₀ : Heap) (L : Addr) (mm : Str → Option Value) (s : Shared) (Z T : List (Addr × Obj)) (p dd : Int) (kA kB tS tP k1 k2 k3 k4 k5 r1 r2 r4 : Tok) (nt : Nat) (tv : List Value) (tl : List Int) (k : Int) (s' : Shared) : Prop :=
  ∃ (h' : Heap) (tk' : Nat) (b m oc : Int) (u3 u4 r3 : Tok) (n1 nv1 nv2 : Nat) (v1 v2 : List Value) (xs : List (Int × Int)), s' = { s with heap := h', toks := tk' } ∧ Fr h₀ L h' mm ∧ News h₀ L h' (qL w f Z b m p oc dd u3 u4 kA kB tS tP k1 k2 k3 k4 k5 r1 r2 r3 r4 n1 nv1 nv2 nt v1 v2 tv) ∧ QJ f b m p oc dd v1 v2 tv tl xs T k
end
def pickRetM (g : Obj → List (Addr × Obj)) (ns : List Int) (r : Value) (news' : List (Addr × Obj)) : Prop :=
  ∃ (v : Int) (b m : Int) (t1 t2 t3 : Tok) (n : Nat), r = .int v t1 ∧ v ∈ ns ∧ 0 ≤ b ∧ 0 ≤ m ∧ m < 2147483647 ∧ news' = g (listOf #[.int b t2, .int m t3] n)
theorem one_m {w : World} {sa ta : Addr} {b m : Int} {t2 t3 : Tok} {n n2 : Nat} {vs : List Value} {ns : List Int} {news : List (Addr × Obj)} {g : Obj → List (Addr × Obj)} (U : UpdF sa (listOf #[.int b t2, .int m t3] n) news g)
    (hta : (ta, listOf vs.toArray n2) ∈ news) (hne : @Ne Nat ta sa) (hi : IntsAre vs ns)
    (hb : 0 ≤ b) (hm : 0 ≤ m) (hm' : m < 2147483647) (hl : 0 < ns.length) (hl' : ns.length < 1000) : Claim w 3 194 [.ref sa, .ref ta] news (pickRetM g ns) := by
  refine claim_conv fun h₀ L h N => ?_
  refine ⟨_, _, one_c U hta hne hi hb hm hm' hl hl', fun _ hp => hp, ?_⟩
  rintro r n1 ⟨d, b', m', t1', t2', t3', n', rfl, k1, k2, k3, k4, rfl⟩
  refine ⟨_, ⟨_, b', m', t1', t2', t3', n', rfl, ?_, k2, k3, k4, rfl⟩, fun _ hp => hp⟩
  have e : ns.getD d 0 = ns[d] := by simp [k1]
  rw [e]
  exact List.getElem_mem k1
theorem one_size {v : Int} (h : v ∈ [1, 3, 8, 20]) : 1 ≤ v ∧ v ≤ 20 := by
  simp only [List.mem_cons, List.not_mem_nil, or_false] at h
  omega
end Mine
end
section
open PySem PySem.W PySem.Spec PySem.Calls PyProof.Rows PyProof.V
set_option maxRecDepth 100000
set_option linter.unusedVariables false
namespace Mine
theorem QJ.start {f : QF} {b m : Int} {t : Tok} (hb : 0 ≤ b) (hm : 0 ≤ m) (hm' : m < 2147483647) (hr : 0 ≤ f.room) (hs0 : 0 ≤ f.shift) (hs1 : f.shift < 4) : QJ f b m 0 0 0 [] [] [.int 0 t] [0] [] [] 0 := by
  refine { hb := hb, hm := hm, hm' := hm', t1 := .nil, t2 := .nil, sz := by simp, hoc := by simp [tot], hroom := hr, len := by simp, told := .cons 0 t .nil, zero := by simp, tb := by simp [hr], tlen := by simp, p0 := by omega, pm := ?_, d0 := by omega, d1 := by omega }
  intro M hM
  have h1 : 0 ≤ M := hM 0 (by simp)
  have := QJ.pow hs0 hs1
  exact Int.mul_pos (by omega) this
theorem off_cons {a1 a2 a3 a4 a5 a6 a : Addr} {o : Obj} {l : List (Addr × Obj)} (h : (@Ne Nat a a1) ∧ (@Ne Nat a a2) ∧ (@Ne Nat a a3) ∧ (@Ne Nat a a4) ∧ (@Ne Nat a a5) ∧ (@Ne Nat a a6)) (r : OwnOff l [a1, a2, a3, a4, a5, a6]) : OwnOff ((a, o) :: l) [a1, a2, a3, a4, a5, a6] := by
  intro p hp b hb
  rcases List.mem_cons.mp hp with rfl | hp
  · obtain ⟨h1, h2, h3, h4, h5, h6⟩ := h
    simp only [List.mem_cons, List.not_mem_nil, or_false] at hb
    rcases hb with rfl | rfl | rfl | rfl | rfl | rfl <;> assumption
  · exact r p hp b hb
theorem off2 {Z : List (Addr × Obj)} {a1 a2 : Addr} {o1 o2 : Obj} (h1 : ∀ p ∈ Z, p.1 ≠ a1) (h2 : ∀ p ∈ Z, p.1 ≠ a2) : OwnOff Z ([(a1, o1), (a2, o2)].map (·.1)) := by
  intro p hp b hb
  simp only [List.map_cons, List.map_nil, List.mem_cons, List.not_mem_nil, or_false] at hb
  rcases hb with rfl | rfl
  · exact h1 p hp
  · exact h2 p hp
theorem off_rest {a1 a2 a3 a4 a5 a6 : Addr} {l : List (Addr × Obj)} (h1 : ∀ p ∈ l, p.1 ≠ a1) (h2 : ∀ p ∈ l, p.1 ≠ a2) (h3 : ∀ p ∈ l, p.1 ≠ a3) (h4 : ∀ p ∈ l, p.1 ≠ a4) (h5 : ∀ p ∈ l, p.1 ≠ a5) (h6 : ∀ p ∈ l, p.1 ≠ a6) : OwnOff l [a1, a2, a3, a4, a5, a6] := by
  intro p hp b hb
  simp only [List.mem_cons, List.not_mem_nil, or_false] at hb
  rcases hb with rfl | rfl | rfl | rfl | rfl | rfl
  · exact h1 p hp
  · exact h2 p hp
  · exact h3 p hp
  · exact h4 p hp
  · exact h5 p hp
  · exact h6 p hp
theorem qL_ext {w : World} {f : QF} {h₀ h : Heap} {L : Addr} {Z : List (Addr × Obj)} {b m p oc dd : Int} {u3 u4 kA kB tS tP k1 k2 k3 k4 k5 r1 r2 r3 r4 : Tok} {n1 nv1 nv2 nt : Nat} {v1 v2 tv : List Value} (N : News h₀ L h (qL w f Z b m p oc dd u3 u4 kA kB tS tP k1 k2 k3 k4 k5 r1 r2 r3 r4 n1 nv1 nv2 nt v1 v2 tv)) (X : List (Addr × Obj)) (hX : ∀ p ∈ X, p ∈ Z) :
    News h₀ L h (qL w f (X ++ Z) b m p oc dd u3 u4 kA kB tS tP k1 k2 k3 k4 k5 r1 r2 r3 r4 n1 nv1 nv2 nt v1 v2 tv) := by
  refine news_sub N ?_
  intro q hq
  simp only [qL, List.mem_cons, List.mem_append] at hq ⊢
  rcases hq with h1 | h1 | h1 | h1 | h1 | h1 | h1 | h1 | h1 | h1
  all_goals (first | (simp [h1]; done) | (have := hX _ h1; simp [this]))
theorem QJ.bounds {f : QF} {b m p oc dd : Int} {v1 v2 tv : List Value} {tl : List Int} {xs : List (Int × Int)} {Z : List (Addr × Obj)} {k : Int} (j : QJ f b m p oc dd v1 v2 tv tl xs Z k) (hk : k < 15) : v1.length < 20 ∧ v2.length < 20 ∧ tv.length < 20 := by
  have a1 := j.t1.length
  have a2 := j.t2.length
  have a3 := j.told.length
  have a4 := j.len
  have a5 := j.tlen
  refine ⟨?_, ?_, ?_⟩ <;> omega
section
variable {prog : Program} {w : World} {A : Around} {E : Value → Shared → Prop} {s : Shared} {Q : Value → Shared → Prop} {x y : Int} {t u : Tok}
theorem le_true (h : x ≤ y) (k : Q (.bool true) s) : wpAny (model prog w) A (compareOp .LtE (.int x t) (.int y u)) Q E s :=
  PyProof.Rows.le_int (by rw [decide_eq_true h]; exact k)
theorem ne_false (h : x = y) (k : Q (.bool false) s) : wpAny (model prog w) A (compareOp .NotEq (.int x t) (.int y u)) Q E s :=
  PyProof.Rows.ne_int (by rw [h, bne_self_eq_false]; exact k)
theorem neb_false {b c : Bool} (h : b = c) (k : Q (.bool false) s) : wpAny (model prog w) A (compareOp .NotEq (.bool b) (.bool c)) Q E s :=
  PyProof.Rows.ne_bool (by rw [h, bne_self_eq_false]; exact k)
theorem tt_le (h : x ≤ y) : true = decide (x ≤ y) := (decide_eq_true h).symm
theorem ff_le (h : y < x) : false = decide (x ≤ y) := (decide_eq_false (by omega)).symm
end
section
variable {prog : Program} {w : World} {A : Around} {E : Value → Shared → Prop} {s : Shared} {env : Env} {h₀ : Heap} {x : Str} {st : Stmt} {rest : List Stmt} {Q : Flow → Shared → Prop}
theorem queue_loop3 {r : Addr} {b₀ : Int} {t₀ u₀ v₀ : Tok} {n : Nat} {m₀ : Str → Option Value} {news : List (Addr × Obj)} (f : QF) (c₀ : QS)
    (hh : A.handled = none) (hr : IsRange s.heap r 0 b₀ 1 t₀ u₀ v₀) (hsmall : Builtin.Range.small 0 b₀ 1 = true) (hsz : Builtin.Range.rangeSize 0 b₀ 1 = (n : Int)) (F : Fr h₀ env.locals s.heap m₀) (N : News h₀ env.locals s.heap news)
    (hm : QN f m₀ c₀.p) (hn : ∀ p ∈ c₀.led w f, p ∈ news) (hj : QJ f c₀.b c₀.m c₀.p c₀.oc c₀.dd c₀.v1 c₀.v2 c₀.tv c₀.tl c₀.xs c₀.tups 0) (ht₀ : ∀ p ∈ c₀.tups, f.tl < p.1)
    (hlt : (@LT.lt Nat _ f.sa f.tl) ∧ (@LT.lt Nat _ f.dr f.tl) ∧ (@LT.lt Nat _ f.th f.tl) ∧ (@LT.lt Nat _ f.ow f.tl) ∧ (@LT.lt Nat _ f.dx f.tl)) (hfix : OwnOff f.fix [f.sa, f.dr, f.th, f.ow, f.dx, f.tl]) (hn15 : n < 15)
    (turnN : ∀ (k : Int) (t : Tok) (h : Heap) (tk : Nat) (Z : List (Addr × Obj)) (b m p oc dd : Int) (u3 u4 kA kB tS tP tp k1 k2 k3 k4 k5 r1 r2 r3 r4 : Tok) (n1 nv1 nv2 nt : Nat) (tv : List Value) (u : Str → Option Value) (R : Flow → Shared → Prop),
      OwnOff Z [f.sa, f.dr, f.th, f.ow, f.dx, f.tl] → 0 ≤ b → 0 ≤ m → m < 2147483647 →
      Fr h₀ env.locals h (fun y => if y = x then some (.int k t) else qM f p tp u y) → News h₀ env.locals h (qL w f Z b m p oc dd u3 u4 kA kB tS tP k1 k2 k3 k4 k5 r1 r2 r3 r4 n1 nv1 nv2 nt [] [] tv) →
      (∀ (h' : Heap) (tk' : Nat) (b m : Int) (u3 u4 : Tok) (n1 : Nat), 0 ≤ b → 0 ≤ m → m < 2147483647 → Fr h₀ env.locals h' (fun y => if y = x then some (.int k t) else qM f p tp u y) → News h₀ env.locals h' (qL w f Z b m p oc dd u3 u4 kA kB tS tP k1 k2 k3 k4 k5 r1 r2 r3 r4 n1 nv1 nv2 nt [] [] tv) → R .next { s with heap := h', toks := tk' }) →
      wpAny (model prog w) A (exec st env) R E { s with heap := h, toks := tk })
    (turnC : ∀ (k : Int) (t : Tok) (h : Heap) (tk : Nat) (Z : List (Addr × Obj)) (b m p oc dd : Int) (u3 u4 kA kB tS tP tp k1 k2 k3 k4 k5 r1 r2 r3 r4 : Tok) (n1 nv1 nv2 nt : Nat) (a1 a2 : Addr) (s1 i1 : Int) (w1 w2 w3 w4 : Tok) (c1 c2 : Nat) (v1 v2 tv : List Value) (xs : List (Int × Int)) (u : Str → Option Value) (R : Flow → Shared → Prop),
      OwnOff Z [f.sa, f.dr, f.th, f.ow, f.dx, f.tl] → 0 ≤ b → 0 ≤ m → m < 2147483647 → 0 ≤ s1 → s1 ≤ oc → oc ≤ f.room → v1.length < 20 → v2.length < 20 → Tups Z (.ref a2 :: v2) ((s1, i1) :: xs) →
      ((@Ne Nat a1 f.sa) ∧ (@Ne Nat a1 f.dr) ∧ (@Ne Nat a1 f.th) ∧ (@Ne Nat a1 f.ow) ∧ (@Ne Nat a1 f.dx) ∧ (@Ne Nat a1 f.tl)) → ((@Ne Nat a2 f.sa) ∧ (@Ne Nat a2 f.dr) ∧ (@Ne Nat a2 f.th) ∧ (@Ne Nat a2 f.ow) ∧ (@Ne Nat a2 f.dx) ∧ (@Ne Nat a2 f.tl)) →
      Fr h₀ env.locals h (fun y => if y = x then some (.int k t) else qM f p tp u y) → News h₀ env.locals h (qL w f ((a1, tupObj s1 i1 w1 w2 c1) :: (a2, tupObj s1 i1 w3 w4 c2) :: Z) b m p oc dd u3 u4 kA kB tS tP k1 k2 k3 k4 k5 r1 r2 r3 r4 n1 nv1 nv2 nt (.ref a1 :: v1) (.ref a2 :: v2) tv) →
      (∀ (h' : Heap) (tk' : Nat) (b m : Int) (u3 u4 : Tok) (n1 : Nat), 0 ≤ b → 0 ≤ m → m < 2147483647 → Fr h₀ env.locals h' (fun y => if y = x then some (.int k t) else qM f p tp u y) → News h₀ env.locals h' (qL w f Z b m p oc dd u3 u4 kA kB tS tP k1 k2 k3 k4 k5 r1 r2 r3 r4 n1 nv1 nv2 nt (.ref a1 :: v1) (.ref a2 :: v2) tv) → R .next { s with heap := h', toks := tk' }) →
      (∀ (h' : Heap) (tk' : Nat) (b m : Int) (u3 u4 r3 : Tok) (n1 nv1 nv2 : Nat), 0 ≤ b → 0 ≤ m → m < 2147483647 → Fr h₀ env.locals h' (fun y => if y = x then some (.int k t) else qM f p tp u y) → News h₀ env.locals h' (qL w f Z b m p (oc - s1) dd u3 u4 kA kB tS tP k1 k2 k3 k4 k5 r1 r2 r3 r4 n1 nv1 nv2 nt v1 v2 tv) → R .next { s with heap := h', toks := tk' }) →
      wpAny (model prog w) A (exec st env) R E { s with heap := h, toks := tk })
    (turn : ∀ (k : Int) (t : Tok) (h : Heap) (tk : Nat) (Z T : List (Addr × Obj)) (b m p oc dd : Int) (u3 u4 kA kB tS tP tp k1 k2 k3 k4 k5 r1 r2 r3 r4 : Tok) (n1 nv1 nv2 nt : Nat) (v1 v2 tv : List Value) (tl : List Int) (xs : List (Int × Int)) (u : Str → Option Value) (R : Flow → Shared → Prop),
      0 ≤ k → k < 15 → OwnOff Z [f.sa, f.dr, f.th, f.ow, f.dx, f.tl] → (∀ p ∈ f.fix, p ∈ Z) → (∀ p ∈ T, p ∈ Z) → QJ f b m p oc dd v1 v2 tv tl xs T k → 0 ≤ oc →
      Fr h₀ env.locals h (fun y => if y = x then some (.int k t) else qM f p tp u y) → News h₀ env.locals h (qL w f Z b m p oc dd u3 u4 kA kB tS tP k1 k2 k3 k4 k5 r1 r2 r3 r4 n1 nv1 nv2 nt v1 v2 tv) →
      (∀ (fl : Flow) (h' : Heap) (tk' : Nat) (m' : Str → Option Value) (nw : List (Addr × Obj)) (b m p oc dd : Int) (u3 u4 kA kB tS tP k1 k2 k3 k4 k5 r1 r2 r3 r4 : Tok) (n1 nv1 nv2 nt : Nat) (v1 v2 tv : List Value) (tl : List Int) (xs : List (Int × Int)),
        News h₀ env.locals h' (qL w f (nw ++ Z) b m p oc dd u3 u4 kA kB tS tP k1 k2 k3 k4 k5 r1 r2 r3 r4 n1 nv1 nv2 nt v1 v2 tv) → (fl = .next ∨ fl = .cont) → QN f m' p → (∀ p ∈ nw, f.tl < p.1) → OwnOff Z (nw.map (·.1)) → QJ f b m p oc dd v1 v2 tv tl xs (nw ++ T) (k + 1) → Fr h₀ env.locals h' m' → R fl { s with heap := h', toks := tk' }) →
      wpAny (model prog w) A (execs rest env) R E { s with heap := h, toks := tk })
    (done : ∀ (h : Heap) (tk : Nat) (Z T : List (Addr × Obj)) (b m p oc dd : Int) (u3 u4 kA kB tS tP tp k1 k2 k3 k4 k5 r1 r2 r3 r4 : Tok) (n1 nv1 nv2 nt : Nat) (v1 v2 tv : List Value) (tl : List Int) (xs : List (Int × Int)) (u : Str → Option Value),
      OwnOff Z [f.sa, f.dr, f.th, f.ow, f.dx, f.tl] → (∀ p ∈ f.fix, p ∈ Z) → (∀ p ∈ T, p ∈ Z) → QJ f b m p oc dd v1 v2 tv tl xs T n →
      Fr h₀ env.locals h (qM f p tp u) → News h₀ env.locals h (qL w f Z b m p oc dd u3 u4 kA kB tS tP k1 k2 k3 k4 k5 r1 r2 r3 r4 n1 nv1 nv2 nt v1 v2 tv) → Q .next { s with heap := h, toks := tk }) :
    wpAny (model prog w) A (pyIter (.ref r)) (fun it s₂ => LoopAtV prog w A h₀ env x (st :: rest) Q E it s₂) E s := by
  refine queue_loop f c₀ hh hr hsmall hsz F N hm hn hj ht₀ hlt hfix ?_ done
  intro k t h tk Z T b m p oc dd u3 u4 kA kB tS tP tp k1 k2 k3 k4 k5 r1 r2 r3 r4 n1 nv1 nv2 nt v1 v2 tv tl xs u R hk0 hk1 hZ hfz hTZ hJ F₁ N₁ hR
  refine execs_cut (QMid w f h₀ env.locals (fun y => if y = x then some (.int k t) else qM f p tp u y) s Z T p dd kA kB tS tP k1 k2 k3 k4 k5 r1 r2 r4 nt tv tl k) ?_ ?_
  · cases xs with
    | nil =>
      have e1 := hJ.t1
      have e2 := hJ.t2
      cases e1
      cases e2
      refine turnN k t h tk Z b m p oc dd u3 u4 kA kB tS tP tp k1 k2 k3 k4 k5 r1 r2 r3 r4 n1 nv1 nv2 nt tv u _ hZ hJ.hb hJ.hm hJ.hm' F₁ N₁ ?_
      intro h' tk' b' m' u3 u4 n1 hb hm hm' F' N'
      exact ⟨rfl, h', tk', b', m', oc, u3, u4, r3, n1, nv1, nv2, [], [], [], rfl, F', N', hJ.mid hb hm hm'⟩
    | cons q xs =>
      obtain ⟨s1, i1⟩ := q
      have e0 := hJ.t2.mono hTZ
      have e1 := hJ.t1
      have e2 := hJ.t2
      have l1 := hJ.t1.length
      have l2 := hJ.t2.length
      have l3 := hJ.len
      have o1 := hJ.hoc
      have o2 := hJ.sz (s1, i1) (.head _)
      have o3 := tot_nonneg (xs := xs) fun q hq => hJ.sz q (.tail _ hq)
      rw [tot_cons] at o1
      dsimp only at o1 o2
      cases e1 with
      | @cons a1 _ _ w1 w2 c1 vs1 _ hm1 r1' =>
        cases e2 with
        | @cons a2 _ _ w3 w4 c2 vs2 _ hm2 r2' =>
          simp only [List.length_cons] at l1 l2 l3
          refine turnC k t h tk Z b m p oc dd u3 u4 kA kB tS tP tp k1 k2 k3 k4 k5 r1 r2 r3 r4 n1 nv1 nv2 nt a1 a2 s1 i1 w1 w2 w3 w4 c1 c2 vs1 vs2 tv xs u _ hZ hJ.hb hJ.hm hJ.hm' o2 (by omega) hJ.hroom (by omega) (by omega) e0 (off6 hZ (hTZ _ hm1)) (off6 hZ (hTZ _ hm2)) F₁ (news_sub N₁ ?_) ?_ ?_
          · intro q hq
            simp only [qL, List.mem_cons] at hq ⊢
            rcases hq with h1 | h1 | h1 | h1 | h1 | h1 | h1 | h1 | h1 | h1 | h1
            · simp [h1]
            · simp [h1]
            · simp [h1]
            · simp [h1]
            · simp [h1]
            · simp [h1]
            · simp [h1]
            · simp [h1]
            · have := hTZ _ hm1; rw [← h1] at this; simp [this]
            · have := hTZ _ hm2; rw [← h1] at this; simp [this]
            · simp [h1]
          · intro h' tk' b' m' u3 u4 n1 hb hm hm' F' N'
            exact ⟨rfl, h', tk', b', m', oc, u3, u4, r3, n1, nv1, nv2, _, _, (s1, i1) :: xs, rfl, F', N', hJ.mid hb hm hm'⟩
          · intro h' tk' b' m' u3 u4 r3 n1 nv1 nv2 hb hm hm' F' N'
            exact ⟨rfl, h', tk', b', m', oc - s1, u3, u4, r3, n1, nv1, nv2, _, _, xs, rfl, F', N', hJ.pop hb hm hm' rfl⟩
  · rintro s' ⟨h', tk', b, m, oc, u3, u4, r3, n1, nv1, nv2, v1, v2, xs, rfl, F', N', hJ'⟩
    refine turn k t h' tk' Z T b m p oc dd u3 u4 kA kB tS tP tp k1 k2 k3 k4 k5 r1 r2 r3 r4 n1 nv1 nv2 nt v1 v2 tv tl xs u R hk0 (by omega) hZ hfz hTZ hJ' (by rw [hJ'.hoc]; exact tot_nonneg hJ'.sz) F' N' ?_
    intro fl h'' tk'' m'' nw b m p oc dd u3 u4 kA kB tS tP k1 k2 k3 k4 k5 r1 r2 r3 r4 n1 nv1 nv2 nt v1 v2 tv tl xs N'' hfl hq hnw hoff hJ'' F''
    exact hR fl h'' tk'' m'' nw b m p oc dd u3 u4 kA kB tS tP k1 k2 k3 k4 k5 r1 r2 r3 r4 n1 nv1 nv2 nt v1 v2 tv tl xs hfl hq hnw hoff hJ'' F'' N''
end
end Mine
end
section
open PySem PySem.W PySem.Spec PySem.Calls PyProof.Rows PyProof.V
set_option maxRecDepth 100000
set_option linter.unusedVariables false
namespace Mine
section
variable {prog : Program} {w : World} {A : Around} {E : Value → Shared → Prop} {s : Shared} {env : Env} {h₀ : Heap} {x : Str} {body : List Stmt} {Q : Flow → Shared → Prop}
abbrev scM (l : Addr) (u : Str → Option Value) : Str → Option Value := fun y => if y = Str.ofString "script" then some (.ref l) else u y
theorem scM_eq {l : Addr} {m : Str → Option Value} (h : m (Str.ofString "script") = some (.ref l)) : m = scM l m := by
  funext y
  by_cases e : y = Str.ofString "script"
  · rw [e, h]; simp [scM]
  · simp [scM, e]
/-- the law's own loop: a turn keeps the script and what was there before; all else may change -/
theorem law_loop {r l : Addr} {b₀ : Int} {t₀ u₀ v₀ : Tok} {m₀ : Str → Option Value} {news : List (Addr × Obj)}
    (hh : A.handled = none) (hr : IsRange s.heap r 0 b₀ 1 t₀ u₀ v₀) (h0 : 0 ≤ b₀) (h2 : b₀ ≤ 2) (F : Fr h₀ env.locals s.heap m₀) (N : News h₀ env.locals s.heap news) (hm : m₀ (Str.ofString "script") = some (.ref l))
    (turn : ∀ (k : Int) (t : Tok) (h : Heap) (tk : Nat) (own : List (Addr × Obj)) (u : Str → Option Value) (R : Flow → Shared → Prop), 0 ≤ k → k < 2 →
      Fr h₀ env.locals h (fun y => if y = x then some (.int k t) else scM l u y) → News h₀ env.locals h own →
      (∀ (h' : Heap) (tk' : Nat) (m' : Str → Option Value) (news' : List (Addr × Obj)), News h₀ env.locals h' news' → (∀ p ∈ own, p ∈ news') → m' (Str.ofString "script") = some (.ref l) → Fr h₀ env.locals h' m' → R .next { s with heap := h', toks := tk' }) →
      wpAny (model prog w) A (execs body env) R E { s with heap := h, toks := tk })
    (done : ∀ (h : Heap) (tk : Nat) (u : Str → Option Value), Fr h₀ env.locals h (scM l u) → News h₀ env.locals h [] → Q .next { s with heap := h, toks := tk }) :
    wpAny (model prog w) A (pyIter (.ref r)) (fun it s₂ => LoopAtV prog w A h₀ env x body Q E it s₂) E s := by
  obtain ⟨n, hn⟩ : ∃ n : Nat, (n : Int) = b₀ := ⟨b₀.toNat, by omega⟩
  refine range_state (σ := Str → Option Value) (n := n) (fun u => scM l u) (fun _ => []) (fun _ _ => True) m₀ hh hr (small_one (by omega) (by omega) (by omega) (by omega)) (by rw [rangeSize_nat]; simp; omega) F N (scM_eq hm) (fun p hp => by cases hp) trivial ?_ ?_
  · rintro i u t h tk own hi - hown F₁ N₁
    refine turn (i : Int) t h tk own u _ (by omega) (by omega) (by simpa using F₁) (by simpa using N₁) ?_
    intro h' tk' m' news' N' hs hm' F'
    have key : InvEndG h₀ env.locals (fun m' nx => ∃ c' : Str → Option Value, m' = scM l c' ∧ nx = [] ∧ True) own { s with heap := h, toks := tk } { s with heap := h', toks := tk' } :=
      InvEndG.intro (s₁ := { s with heap := h, toks := tk }) F' N' ⟨m', scM_eq hm', rfl, trivial⟩ (fun q hq b hb => by cases hb) (fun p hp => by cases hp) hs
    exact key
  · intro u h tk _ F₁ N₁
    exact done h tk u F₁ N₁
end
end Mine
end
section
open PySem PySem.W PySem.Calls PyProof.Rows
set_option maxRecDepth 100000
set_option linter.unusedVariables false
namespace Mine
theorem lt_ne {d c : Addr} {l : List (Addr × Obj)} (h : ∀ p ∈ l, p.1 < d) (k : @LE.le Nat _ d c) : ∀ p ∈ l, p.1 ≠ c := fun p hp => Nat.ne_of_lt (Nat.lt_of_lt_of_le (h p hp) k)
local macro_rules | `(tactic| k_all) => `(tactic| exact lt_ne (by assumption) (by omega))
local macro_rules | `(tactic| k_all) => `(tactic| exact allLt_ne (by assumption) (by omega))
local macro_rules | `(tactic| k_room) => `(tactic| ktr_room)
local macro_rules | `(tactic| k_units) => `(tactic| ktr_units)
local macro_rules | `(tactic| cell_enter) => `(tactic| (refine' code_defC ?k1 ?k2 ?k3 ?k4 ?k5 ?kA ?kF ?kK ?k6 ?k7 ?k8 ?k9 ?kB ?kD ?_ ?c2 ?c3 ?c4; (case kA => exact rfl); (case kF => exact rfl); (case kK => assumption); (case k1 => k_asm); (case k2 => k_asm); (case k3 => k_asm); (case k4 => k_asm); (case k5 => k_asm); (case k6 => k_is); (case k7 => k_is); (case k8 => ktr_room); (case k9 => exact BindsTo.of_eq rfl); (case kB => exact rfl); (case kD => decide +kernel); (case c2 => exact rfl); (case c3 => exact rfl); (case c4 => exact rfl); k_whole; intro g' L' h' tk' cells' FG' F' N' Y' B' X' T' l1; (try k_lt l1); k_cells Y'; (try simp only [List.cons_append, List.nil_append] at N'); (try dsimp only); (try k_lift B'); (try k_fold)))
-- told by its contract
local macro_rules | `(tactic| walk_at "call ref") => `(tactic| ((with_reducible show wpAny _ _ (call (Value.ref 82) _) _ _ _); k_dflt (refine' claim_use (told_c ?kU ?kx ?kn ?h0 ?h1 ?h2 ?h3 ?h4 ?h5) ?k1 ?k2 ?k3 ?k4 ?k5 ?kK ?kd ?ku ?_; (case k1 => k_asm); (case k2 => k_asm); (case k3 => k_asm); (case k5 => k_asm); (case k4 => k_asm); (case kU => k_updF); (case kx => k_mem); (case kn => k_ne); (case kK => first | exact rfl | assumption); (case h0 => omega); (case h1 => omega); (case h2 => omega); (case h3 => omega); (case h4 => omega); (case h5 => omega); (case kd => ktr_room); (case ku => ktr_units); k_whole); intro r9 n9 h9 tk9 hr9 F9 N9; obtain ⟨q9, v9, t9, t92, hq9, hv9, e91, e92⟩ := hr9; subst e91 e92; (try dsimp only at N9); (try dsimp only); (try k_fold)))
local macro_rules | `(tactic| walk_at "CompSrc") => `(tactic| k_extra "comp")
local macro_rules | `(tactic| walk_at "CompEnd") => `(tactic| k_extra "compend")

theorem comes_back {level : Int} {n k k' : Nat} {ol : List Int} (h : ComesOk level n ol) (hf : (List.range k).all (leAt ol) = false) (hk : k = n - 1) (hk' : k' = n - 1) : (List.range k').all (geAt ol) = true := by
  subst hk hk'
  have := h.two
  rcases comes_end h (k := n - 1) (by omega) with q | q
  · rw [q] at hf; cases hf
  · exact q

theorem comes_comp {prog : Program} {w : World} {A : Around} {h₀ : Heap} {L : Addr} {m : Str → Option Value} {env : Env} {elt : Expr} {y : Str} {scope : Scope} {cl : List (Str × Addr)} {s : Shared} {S : List (Addr × Obj) → Prop} {P : Nat → Value → Prop} {Fin : List Value → List (Addr × Obj) → Prop}
    {n : Nat} {x d : Addr} {k1 k2 t1 t2 : Tok} {sh p : Int} {rest : List (Addr × Obj)} (level : Int) (h0 : 0 ≤ sh) (h1 : sh < 4) (hp : 0 ≤ p) (hp' : p < 10) (hl : 0 ≤ level) (hl' : level < 10) (hn : (n : Int) = 10 * 2 ^ sh.toNat + 2)
    (turn : ∀ (p : Int) (t2 : Tok) v ys I oI C oC D m₂ h tk (E' : Value → Shared → Prop), 0 ≤ p → p < 1000 → LCg.NsObj oC m₂ → m₂ y = some v → Fr h₀ L h m → News h₀ L h ((I, oI) :: (C, oC) :: (D, LCg.lst ys) :: (x, instObj 85 d) :: (d, avgObj w k1 k2 sh t1 p t2) :: rest) → LCg.Off3 I C D ((x, instObj 85 d) :: (d, avgObj w k1 k2 sh t1 p t2) :: rest) → ((@Ne Nat I C) ∧ (@Ne Nat I D) ∧ (@Ne Nat C D)) →
      wpAny (model prog w) A (eval elt (compEnvC scope cl C env)) (LCg.CompEnd h₀ L m { s with heap := h, toks := tk } I oI C oC D (LCg.lst ys) S (fun y news' => ∃ (t3 t : Tok), news' = (x, instObj 85 d) :: (d, avgObj w k1 k2 sh t1 (avgStep sh p level) t3) :: rest ∧ y = .int (avgVal sh (avgStep sh p level)) t)) E' { s with heap := h, toks := tk })
    (fin : ∀ q t3 ys ol, ComesOk level n ol → IntsAre ys ol → Fin ys ((x, instObj 85 d) :: (d, avgObj w k1 k2 sh t1 q t3) :: rest)) :
    LCg.CompRest prog w A h₀ L m env elt y scope cl s S P Fin n 0 [] ((x, instObj 85 d) :: (d, avgObj w k1 k2 sh t1 p t2) :: rest) := by
  refine comp_state (σ := Int × Tok) (fun c => (x, instObj 85 d) :: (d, avgObj w k1 k2 sh t1 c.1 c.2) :: rest) (fun i c l => c.1 = avgIter sh level p i ∧ l = avgOuts sh level p i) ?_ ?_ (p, t2) ⟨rfl, rfl⟩
  · rintro i v ⟨q, t2⟩ l ys I oI C oC D m₂ h tk E' hi hv ⟨hq, rfl⟩ hy hC hx F N off ne
    dsimp only at hq
    have hb := avgIter_bounds h0 h1 hp hp' hl hl' i
    rw [← hq] at hb
    have hc := pow_cases h0 h1
    refine wpAny_mono (turn q t2 v ys I oI C oC D m₂ h tk E' hb.1 (by omega) hC hx F N off ne) (fun y s₂ hz => ?_) fun _ _ e => e
    obtain ⟨h', tk', nw, e, F', N', off', hS, t3, t, rfl, rfl⟩ := hz
    refine ⟨h', tk', _, e, F', N', off', hS, (avgStep sh q level, t3), _, t, rfl, rfl, ?_, ?_⟩
    · show avgStep sh q level = avgIter sh level p (i + 1)
      rw [hq]; rfl
    · rw [avgOuts_succ, hq]; rfl
  · rintro ⟨q, t2⟩ l ys ⟨hq, rfl⟩ hy
    dsimp only at hq
    exact fin q t2 ys _ (comesOk h0 h1 hp hp' hl hl' hn) hy

local macro_rules | `(tactic| walk_at "exec Assign cons ListComp") => `(tactic| k_extra "asg")
local macro_rules | `(tactic| walk_at "call type:zip") => `(tactic| k_extra "zip")
local macro_rules | `(tactic| walk_at "subscriptTail Name Slice ref ref") => `(tactic| k_extra "slice")
local macro_rules | `(tactic| walk_at "subscriptTail Name UnaryOp ref int") => `(tactic| k_extra "neg")
local macro_rules | `(tactic| walk_at "compareOp NotIn") => `(tactic| k_extra "notin")
set_option maxHeartbeats 1000000 in
theorem comes_ok (w : World) (shift first level : Int) (t1 t2 t3 : Tok) (news : List (Addr × Obj))
    (h0 : 0 ≤ shift) (h1 : shift < 4) (h2 : 0 ≤ first) (h3 : first < 10) (h4 : 0 ≤ level) (h5 : level < 10) :
    Claim w 4 209 [.int shift t1, .int first t2, .int level t3] news (fun r news' => r = .bool true ∧ news' = news) := by
  unfold Claim
  k_with_none
  w_top off
  k_fill
  intro mean mg mb dp un gd cn cs a ccd cl outer A₀ base h₀ L m s Q E B F X N T hk hd hu hret
  refine wpAny_call ?_
  k_dflt cell_enter
  have hpw := pow_cases h0 h1
  obtain ⟨n, hn⟩ : ∃ n : Nat, (n : Int) = 10 * 2 ^ shift.toNat + 2 := ⟨(10 * 2 ^ shift.toNat + 2 : Int).toNat, by omega⟩
  k_with "comp" =>
    k_dflt (
      refine LCg.CompSrc.range (n := n) (by rfl) (by k_asm) (by k_asm) (by assumption) (small_one (by omega) (by omega) (by omega) (by omega)) ((rangeSize_nat _ _).trans (by omega)) (by rw [PySem.sizeLine_eq]; omega) ?_
      intro g'
      refine' comes_comp level h0 h1 ?hp ?hp' h4 h5 hn (fun p' t2' v' ys' I' oI' C' oC' D' m' h' tk' E' hlo' hhi' hC' hx' F' N' off' ne' => ?_) (fun q' t3' ys' ol' hO' hI' => ?_)
      case hp => rw [Int.zero_fdiv]; omega
      case hp' => rw [Int.zero_fdiv]; omega
      all_goals (try (simp only [LCg.Off3, and_true] at off')))
  k_with "asg" => (with_reducible show wpAny _ _ (exec (Stmt.Assign [_] (Expr.ListComp _ [⟨Expr.Tuple _ _ _, _, _, _⟩] _ _) _) _) _ _ _); k_dflt (refine Assign_zc (by k_asm) (by rfl) (by with_unfolding_all rfl) (by with_unfolding_all rfl) (by decide) (by rfl) (by decide) (by rfl) (by rfl) (by decide) (by rfl) (by rfl) ?_)
  k_with "slice" => k_dflt (
    have hOs := hO'.small
    have hOt := hO'.two
    have hOl := hO'.len
    have hIl := hI'.length
    refine kmk_slice_ints (ns := ol') (ms := ol'.drop (1 : Int).toNat) (c := n - 1) (by k_asm) (by k_asm) (by kmk_list) (by kmk_part) (by kmk_part) (by assumption) (kmk_from (by assumption) (by decide)) (by rw [List.length_drop]; show ol'.length - 1 = n - 1; omega) ?_ (by with_unfolding_all rfl) (by kmk_pure) (by rw [List.size_toArray, PySem.sizeLine_eq]; omega)
    intro D' ws' h' F' N' l1 hW' hC' hL'
    have hWl := hW'.length
    (try k_lt l1); (try k_sweep))
  k_with "zip" => k_dflt (
    have hOs := hO'.small
    have hOl := hO'.len
    have hIl := hI'.length
    first
    | refine zip_src (fun i => Value.bool (leAt ol' i)) (by rfl) (by k_asm) (by k_asm) (by k_mem) (by k_mem) (by omega) (zc_turn_le (ol := ol') (by assumption) (by assumption) (fun _ => rfl) (fun _ => rfl) (fun _ => rfl) (by decide) (by decide)) ?_
    | refine zip_src (fun i => Value.bool (geAt ol' i)) (by rfl) (by k_asm) (by k_asm) (by k_mem) (by k_mem) (by omega) (zc_turn_ge (ol := ol') (by assumption) (by assumption) (fun _ => rfl) (fun _ => rfl) (fun _ => rfl) (by decide) (by decide)) ?_
    intro D' h' tk' F' N' o1')
  k_with "notin" => k_dflt (refine notin_bools (by k_asm) (by k_mem) ?_)
  k_steps
  · rename News _ _ _ _ => nn
    rename Fr _ _ _ _ => ff
    exact LCg.CompEnd.intro ff nn _ (fun p hp => hp) off' True.intro ⟨_, _, rfl, rfl⟩
  · rename News _ _ _ _ => nn
    refine hret _ _ _ _ ⟨congrArg Value.bool (by assumption), rfl⟩ (by k_asm) (news_sub nn ?_)
    intro p hp
    repeat (first | exact hp | apply List.mem_cons_of_mem)
  · rename News _ _ _ _ => nn
    refine hret _ _ _ _ ⟨congrArg Value.bool (comes_back hO' (by assumption) (by omega) (by omega)), rfl⟩ (by k_asm) (news_sub nn ?_)
    intro p hp
    repeat (first | exact hp | apply List.mem_cons_of_mem)
  · exact absurd hO'.last (by assumption)

end Mine
end
section
open PySem PySem.W PySem.Calls PyProof.Rows
set_option maxRecDepth 100000
set_option linter.unusedVariables false
namespace Mine
theorem lt_ne2 {d c : Addr} {l : List (Addr × Obj)} (h : ∀ p ∈ l, p.1 < d) (k : @LE.le Nat _ d c) : ∀ p ∈ l, p.1 ≠ c := fun p hp => Nat.ne_of_lt (Nat.lt_of_lt_of_le (h p hp) k)
local macro_rules | `(tactic| k_all) => `(tactic| exact lt_ne2 (by assumption) (by omega))
local macro_rules | `(tactic| k_all) => `(tactic| exact allLt_ne (by assumption) (by omega))
local macro_rules | `(tactic| k_room) => `(tactic| ktr_room)
local macro_rules | `(tactic| k_units) => `(tactic| ktr_units)
local macro_rules | `(tactic| cell_enter) => `(tactic| (refine' code_defC ?k1 ?k2 ?k3 ?k4 ?k5 ?kA ?kF ?kK ?k6 ?k7 ?k8 ?k9 ?kB ?kD ?_ ?c2 ?c3 ?c4; (case kA => exact rfl); (case kF => exact rfl); (case kK => assumption); (case k1 => k_asm); (case k2 => k_asm); (case k3 => k_asm); (case k4 => k_asm); (case k5 => k_asm); (case k6 => k_is); (case k7 => k_is); (case k8 => ktr_room); (case k9 => exact BindsTo.of_eq rfl); (case kB => exact rfl); (case kD => decide +kernel); (case c2 => exact rfl); (case c3 => exact rfl); (case c4 => exact rfl); k_whole; intro g' L' h' tk' cells' FG' F' N' Y' B' X' T' l1; (try k_lt l1); k_cells Y'; (try simp only [List.cons_append, List.nil_append] at N'); (try dsimp only); (try k_lift B'); (try k_fold)))
-- the contracts at their calls
local macro_rules | `(tactic| walk_at "call ref") => `(tactic| ((with_reducible show wpAny _ _ (call (Value.ref 110) _) _ _ _); k_dflt (refine' claim_use (share_c ?hc ?hdc ?hn ?h0 ?h1 ?h2 ?h3 ?h4 ?h5 ?h6) ?k1 ?k2 ?k3 ?k4 ?k5 ?kK ?kd ?ku ?_; (case k1 => k_asm); (case k2 => k_asm); (case k3 => k_asm); (case k5 => k_asm); (case k4 => k_asm); (case hc => k_mem); (case hdc => k_mem); (case hn => k_ne); (case kK => first | exact rfl | assumption); (case h0 => omega); (case h1 => omega); (case h2 => omega); (case h3 => omega); (case h4 => omega); (case h5 => omega); (case h6 => omega); (case kd => ktr_room); (case ku => ktr_units); k_whole); intro r9 n9 h9 tk9 hr9 F9 N9; obtain ⟨v9, t9, hv9, e91, e92⟩ := hr9; subst e91 e92; (try dsimp only at N9); (try dsimp only); (try k_fold)))
local macro_rules | `(tactic| walk_at "call ref") => `(tactic| ((with_reducible show wpAny _ _ (call (Value.ref 117) _) _ _ _); k_dflt (refine' claim_use (drops_cv ?hv ?hc ?hdc ?hn ?h0 ?h1 ?h2 ?h3 ?h4 ?h5 ?h6) ?k1 ?k2 ?k3 ?k4 ?k5 ?kK ?kd ?ku ?_; (case k1 => k_asm); (case k2 => k_asm); (case k3 => k_asm); (case k5 => k_asm); (case k4 => k_asm); (case hv => assumption); (case hc => k_mem); (case hdc => k_mem); (case hn => k_ne); (case kK => first | exact rfl | assumption); (case h0 => omega); (case h1 => omega); (case h2 => omega); (case h3 => omega); (case h4 => omega); (case h5 => omega); (case h6 => omega); (case kd => ktr_room); (case ku => ktr_units); k_whole); intro r9 n9 h9 tk9 hr9 F9 N9; obtain ⟨e91, e92⟩ := hr9; subst e91 e92; (try dsimp only at N9); (try dsimp only); (try k_fold)))
local macro_rules | `(tactic| walk_at "call ref") => `(tactic| ((with_reducible show wpAny _ _ (call (Value.ref 199) _) _ _ _); k_dflt (refine' claim_use (lshare_cv ?hv ?h0 ?h1 ?h2 ?h3 ?h4 ?h5 ?h6) ?k1 ?k2 ?k3 ?k4 ?k5 ?kK ?kd ?ku ?_; (case k1 => k_asm); (case k2 => k_asm); (case k3 => k_asm); (case k5 => k_asm); (case k4 => k_asm); (case kK => first | exact rfl | assumption); (case hv => assumption); (case h0 => omega); (case h1 => omega); (case h2 => omega); (case h3 => omega); (case h4 => omega); (case h5 => omega); (case h6 => omega); (case kd => ktr_room); (case ku => ktr_units); k_whole); intro r9 n9 h9 tk9 hr9 F9 N9; obtain ⟨t9, e91, e92⟩ := hr9; subst e91 e92; (try dsimp only at N9); (try dsimp only); (try k_fold)))
local macro_rules | `(tactic| walk_at "exec For Name Name cons nil") => `(tactic| (k_here; (rename Fr _ _ _ _ => lF'); (with_unfolding_all refine' For_turns lF' ?_); k_whole))
local macro_rules | `(tactic| walk_at "pyIter ref") => `(tactic| k_extra "iter")
local macro_rules | `(tactic| walk_at "CompSrc") => `(tactic| k_extra "comp")
local macro_rules | `(tactic| walk_at "CompEnd") => `(tactic| (refine LCg.CompEnd.intro (by k_asm) (by k_asm) _ (fun p hp => hp) (by (simp only [LCg.Off3, and_true]; assumption)) (Or.inr ⟨_, by k_mem, by rfl, _, by rfl⟩) ?_))
local macro_rules | `(tactic| walk_at "compareOp NotEq ref ref") => `(tactic| k_dflt (refine ne_two (by k_asm) (by k_mem) (by k_mem) (by ktr_units) ?_))
local macro_rules | `(tactic| walk_at "UnrEndW") => `(tactic| k_extra "turnend")

theorem cu_eq {m₀ : Str → Option Value} {v l : Int} {tv tv2 tl : Tok} {u : Option Value} :
    (fun y => if y = Str.ofString "last" then some (Value.int v tv) else if y = Str.ofString "share" then some (Value.int v tv2) else cuM m₀ l tl u y) = cuM m₀ v tv (some (.int v tv2)) := by
  funext y
  by_cases c1 : y = Str.ofString "last"
  · simp only [cuM, if_pos c1]
  · by_cases c2 : y = Str.ofString "share"
    · simp only [cuM, if_neg c1, if_pos c2]
    · simp only [cuM, if_neg c1, if_neg c2]

set_option maxHeartbeats 1000000 in
theorem curve_ok (w : World) (c dc la : Addr) (k1 k2 k3 t1 t2 t3 u1 u2 u3 : Tok) (low high most : Int) (vs : List Value) (ns : List Int) (n : Nat) (rest : List (Addr × Obj))
    (ho : OwnOff rest [c, dc, la]) (hn1 : @Ne Nat c dc) (hn2 : @Ne Nat c la) (hn3 : @Ne Nat dc la)
    (h0 : 0 ≤ low) (h1 : low < high) (h2 : high < 1000) (h3 : 0 ≤ most) (h4 : most < 1000) (hi : IntsAre vs ns)
    (hr : ∀ a ∈ ns, 0 ≤ a ∧ a < 1000) (hs : ∀ (i j : Nat) (a b : Int), i ≤ j → ns[i]? = some a → ns[j]? = some b → a ≤ b) :
    Claim w 12 204 [.ref c, .int low u1, .int high u2, .int most u3, .ref la] ((c, instObj 120 dc) :: (dc, curveObj w k1 k2 k3 low t1 high t2 most t3) :: (la, listOf vs.toArray n) :: rest)
      (fun r news' => r = .bool true ∧ news' = (c, instObj 120 dc) :: (dc, curveObj w k1 k2 k3 low t1 high t2 most t3) :: (la, listOf vs.toArray n) :: rest) := by
  unfold Claim
  k_with_none
  w_top off
  k_fill
  intro mean mg mb dp un gd cn cs a ccd cl outer A₀ base h₀ L m s Q E B F X N T hk hd hu hret
  refine wpAny_call ?_
  k_dflt cell_enter
  k_with "iter" => k_dflt (
    refine iter_listTurns (by rfl) (by k_asm) (by k_asm) (by k_mem) (by rfl) (by rfl) ?_
    intro I' lI'
    (try k_lt lI')
    refine curve_items low high most _ h1 h3 (by omega) hi hs (by assumption) (fun oc => by k_mem) (fun oc' oI' x' a' t' l' tl' u' h' tk' ha' hl' hle' hx' hI' F' N' => ?_) (fun oc' x' l' tl' u' h' tk' hx' F' N' => ?_)
    all_goals (try dsimp only [cuM] at F')
    all_goals (try (have hb9 := hr _ ha')))
  k_with "comp" => k_dflt (
    refine LCg.CompSrc.ledger (by rfl) (by k_asm) (by k_asm) (by k_mem) (by size_fits) ?_
    intro g')
  k_steps
  · exact absurd rfl (by assumption)
  · rename News _ _ _ _ => nn
    rename Fr _ _ _ _ => ff
    rename _ = shareF _ _ _ _ => hv
    subst hv
    refine ⟨_, _, _, _, rfl, ff, news_sub nn ?_, ?_, _, _, _, _, by assumption, cu_eq, rfl⟩
    · intro p hp
      rcases List.mem_cons.mp hp with rfl | hp
      · k_mem
      · repeat (first | exact hp | apply List.mem_cons_of_mem)
    · intro p hp q hq
      rw [List.mem_singleton.mp hq]
      exact allLt_ne (show AllLt I' _ from by (simp only [AllLt, and_true]; exact lI')) (Nat.le_refl _) p hp
  · rename News _ _ _ _ => nn
    rename Fr _ _ _ _ => ff
    rename _ = shareF _ _ _ _ => hv
    subst hv
    refine ⟨_, _, _, _, rfl, ff, news_sub nn ?_, ?_, _, _, _, _, by assumption, cu_eq, rfl⟩
    · intro p hp
      rcases List.mem_cons.mp hp with rfl | hp
      · k_mem
      · repeat (first | exact hp | apply List.mem_cons_of_mem)
    · intro p hp q hq
      rw [List.mem_singleton.mp hq]
      exact allLt_ne (show AllLt I' _ from by (simp only [AllLt, and_true]; exact lI')) (Nat.le_refl _) p hp
  · rename News _ _ _ _ => nn
    refine hret _ _ _ _ ⟨rfl, rfl⟩ (by k_asm) (news_sub nn ?_)
    intro p hp
    repeat (first | exact hp | apply List.mem_cons_of_mem)

end Mine
end
section
open PySem PySem.W PySem.Calls PyProof.Rows
set_option maxRecDepth 100000
set_option linter.unusedVariables false
namespace Mine
theorem lt_ne3 {d c : Addr} {l : List (Addr × Obj)} (h : ∀ p ∈ l, p.1 < d) (k : @LE.le Nat _ d c) : ∀ p ∈ l, p.1 ≠ c := fun p hp => Nat.ne_of_lt (Nat.lt_of_lt_of_le (h p hp) k)
local macro_rules | `(tactic| k_all) => `(tactic| exact lt_ne3 (by assumption) (by omega))
local macro_rules | `(tactic| k_all) => `(tactic| exact allLt_ne (by assumption) (by omega))
local macro_rules | `(tactic| k_room) => `(tactic| ktr_room)
local macro_rules | `(tactic| k_units) => `(tactic| ktr_units)
-- the contracts at their calls
local macro_rules | `(tactic| walk_at "call ref") => `(tactic| ((with_reducible show wpAny _ _ (call (Value.ref 187) _) _ _ _); k_dflt (refine' claim_use (take_c ?kU ?hb ?hm ?hm' ?ht ?ht') ?k1 ?k2 ?k3 ?k4 ?k5 ?kK ?kd ?ku ?_; (case k1 => k_asm); (case k2 => k_asm); (case k3 => k_asm); (case k5 => k_asm); (case k4 => k_asm); (case kU => k_updF); (case hb => assumption); (case hm => assumption); (case hm' => assumption); (case ht => decide); (case ht' => decide); (case kK => first | exact rfl | assumption); (case kd => ktr_room); (case ku => ktr_units); k_whole); intro r9 nw9 h9 tk9 hr9 F9 N9; unfold takeRet at hr9; obtain ⟨d9, b9, m9, t91, t92, t93, n9, e91, hd91, hd92, hb9, hm91, hm92, e92⟩ := hr9; subst e91 e92; (try dsimp only at N9); (try dsimp only); (try k_fold)))
local macro_rules | `(tactic| walk_at "call ref") => `(tactic| ((with_reducible show wpAny _ _ (call (Value.ref 194) _) _ _ _); k_dflt (refine' claim_use (one_m ?kU ?kt ?kn ?ki ?hb ?hm ?hm' ?ht ?ht') ?k1 ?k2 ?k3 ?k4 ?k5 ?kK ?kd ?ku ?_; (case k1 => k_asm); (case k2 => k_asm); (case k3 => k_asm); (case k5 => k_asm); (case k4 => k_asm); (case kU => k_updF); (case kt => k_mem); (case kn => k_ne); (case ki => l_ints); (case hb => assumption); (case hm => assumption); (case hm' => assumption); (case ht => exact Nat.le_of_ble_eq_true rfl); (case ht' => exact Nat.le_of_ble_eq_true rfl); (case kK => first | exact rfl | assumption); (case kd => ktr_room); (case ku => ktr_units); k_whole); intro r9 nw9 h9 tk9 hr9 F9 N9; unfold pickRetM at hr9; obtain ⟨v9, b9, m9, t91, t92, t93, n9, e91, hv9, hb9, hm91, hm92, e92⟩ := hr9; subst e91 e92; (try have hv8 := one_size hv9); clear hv9; (try dsimp only at N9); (try dsimp only); (try k_fold)))
local macro_rules | `(tactic| walk_at "call ref") => `(tactic| ((with_reducible show wpAny _ _ (call (Value.ref 82) _) _ _ _); k_dflt (refine' claim_use (told_c ?kU ?kx ?kn ?h0 ?h1 ?h2 ?h3 ?h4 ?h5) ?k1 ?k2 ?k3 ?k4 ?k5 ?kK ?kd ?ku ?_; (case k1 => k_asm); (case k2 => k_asm); (case k3 => k_asm); (case k5 => k_asm); (case k4 => k_asm); (case kx => k_mem); (case kU => k_updF); (case kn => k_ne); (case kK => first | exact rfl | assumption); (case h0 => omega); (case h1 => omega); (case h2 => omega); (case h3 => omega); (case h4 => omega); (case h5 => omega); (case kd => ktr_room); (case ku => ktr_units); k_whole); intro r9 n9 h9 tk9 hr9 F9 N9; obtain ⟨q9, v9, t9, t92, hq9, hv9, e91, e92⟩ := hr9; subst e91 e92; (try k_dflt (have hw9 := hv9.trans (congrArg (avgVal _) hq9); have hs9 := QJ.seen0 (by assumption) (by assumption) (by assumption) hw9)); (try dsimp only at hs9); (try dsimp only at N9); (try dsimp only); (try k_fold)))
local macro_rules | `(tactic| walk_at "call ref") => `(tactic| ((with_reducible show wpAny _ _ (call (Value.ref 199) _) _ _ _); k_dflt (refine' claim_use (lshare_c ?h0 ?h1 ?h2 ?h3 ?h4 ?h5 ?h6) ?k1 ?k2 ?k3 ?k4 ?k5 ?kK ?kd ?ku ?_; (case k1 => k_asm); (case k2 => k_asm); (case k3 => k_asm); (case k5 => k_asm); (case k4 => k_asm); (case kK => first | exact rfl | assumption); (case h0 => omega); (case h1 => omega); (case h2 => omega); (case h3 => omega); (case h4 => omega); (case h5 => omega); (case h6 => omega); (case kd => ktr_room); (case ku => ktr_units); k_whole); intro r9 n9 h9 tk9 hr9 F9 N9; obtain ⟨v9, t9, hv9, e91, e92⟩ := hr9; subst e91 e92; (try dsimp only at N9); (try dsimp only); (try k_fold)))
local macro_rules | `(tactic| walk_at "call ref") => `(tactic| ((with_reducible show wpAny _ _ (call (Value.ref 117) _) _ _ _); k_dflt (refine' claim_use (drops_cv ?hv ?hc ?hdc ?hn ?h0 ?h1 ?h2 ?h3 ?h4 ?h5 ?h6) ?k1 ?k2 ?k3 ?k4 ?k5 ?kK ?kd ?ku ?_; (case k1 => k_asm); (case k2 => k_asm); (case k3 => k_asm); (case k5 => k_asm); (case k4 => k_asm); (case hv => assumption); (case hc => k_mem); (case hdc => k_mem); (case hn => k_ne); (case kK => first | exact rfl | assumption); (case h0 => omega); (case h1 => omega); (case h2 => omega); (case h3 => omega); (case h4 => omega); (case h5 => omega); (case h6 => omega); (case kd => ktr_room); (case ku => ktr_units); k_whole); intro r9 n9 h9 tk9 hr9 F9 N9; obtain ⟨e91, e92⟩ := hr9; subst e91 e92; (try dsimp only at N9); (try dsimp only); (try k_fold)))
local macro_rules | `(tactic| walk_at "exec For Name Call cons nil") => `(tactic| (k_here; (rename Fr _ _ _ _ => lF'); (with_unfolding_all refine' For_invVF lF' ?k1 ?k2 ?_; (case k1 => exact rfl); (case k2 => exact rfl); k_whole)))
local macro_rules | `(tactic| walk_at "pyIter ref") => `(tactic| k_extra "iter")

local macro_rules | `(tactic| walk_at "call builtin:list.append") => `(tactic| ((with_reducible show wpAny _ _ (call (Value.builtin _) [Value.ref _, _]) _ _ _); k_dflt (refine append_st (by k_asm) (by k_asm) (by k_updF) (by omega) ?_); intro h' n' F' N'; (try dsimp only at N')))
local macro_rules | `(tactic| walk_at "call builtin:list.pop") => `(tactic| ((with_reducible show wpAny _ _ (call (Value.builtin _) [Value.ref _, Value.int _ _]) _ _ _); k_dflt (refine pop0_st (by k_asm) (by k_asm) (by k_updF) (by omega) ?_); intro h' n' F' N'; (try dsimp only at N')))
local macro_rules | `(tactic| walk_at "call builtin:len") => `(tactic| ((with_reducible show wpAny _ _ (call (Value.builtin _) [Value.ref _]) _ _ _); k_dflt (refine len_st (by k_asm) (by k_mem) (by exact rfl) (by omega) ?_); intro t' tk'))
local macro_rules | `(tactic| walk_at "call builtin:sum") => `(tactic| ((with_reducible show wpAny _ _ (call (Value.builtin _) [Value.ref _]) _ _ _); k_dflt (refine sum_st (by exact rfl) (by k_asm) (by k_asm) (by k_mem) (by assumption) ?_); intro h' tk' t' lv hl F' N'; (have hq := hl.trans (QJ.hoc (by assumption)).symm); subst hq))
local macro_rules | `(tactic| walk_at "compareOp NotEq ref ref") => `(tactic| k_extra "ne")
local macro_rules | `(tactic| walk_at "compareOp Eq ref ref") => `(tactic| k_extra "eq")
local macro_rules | `(tactic| walk_at "SrcLP") => `(tactic| k_extra "comp")
local macro_rules | `(tactic| walk_at "CompEnd") => `(tactic| (k_dflt (refine LCg.CompEnd.intro (by k_asm) (by k_asm) _ (fun p hp => hp) (by first | assumption | (simp only [LCg.Off3, and_true]; assumption)) (Or.inr ⟨_, by k_mem, by rfl, _, by rfl⟩) ⟨_, rfl, rfl⟩)))
local macro_rules | `(tactic| walk_at "compareOp LtE int int") => `(tactic| ((with_reducible show wpAny _ _ (compareOp CmpOp.LtE (Value.int _ _) (Value.int _ _)) _ _ _); k_dflt (first
  | refine le_true (Int.le_trans (QJ.low (by with_reducible assumption) (by with_reducible assumption) (by with_reducible assumption)) (And.left (by with_reducible assumption))) ?_
  | refine le_true (And.right (QJ.seen (by with_reducible assumption) (by assumption) (by assumption) (by assumption) (by with_reducible assumption))) ?_)))
local macro_rules | `(tactic| walk_at "compareOp NotEq int int") => `(tactic| ((with_reducible show wpAny _ _ (compareOp CmpOp.NotEq (Value.int _ _) (Value.int _ _)) _ _ _); k_dflt (refine ne_false (by assumption) ?_)))
local macro_rules | `(tactic| walk_at "compareOp NotEq bool bool") => `(tactic| ((with_reducible show wpAny _ _ (compareOp CmpOp.NotEq (Value.bool _) (Value.bool _)) _ _ _); (first
  | (with_reducible refine neb_false rfl ?_)
  | (with_reducible refine neb_false (tt_le (by omega)) ?_)
  | (with_reducible refine neb_false (ff_le (by omega)) ?_))))

-- a ledger's items, each found in another ledger
local macro_rules | `(tactic| walk_at "allmem") => `(tactic| first | (with_reducible exact List.forall_mem_nil _) | ((with_reducible refine List.forall_mem_cons.mpr (And.intro ?_ ?_)); (focus k_mem); walk_at "allmem") | (intro p hp; (repeat (first | exact hp | apply List.mem_cons_of_mem)); done))

set_option maxHeartbeats 40000000 in
theorem queue_ok (w : World) (sa c dc ba : Addr) (b m : Int) (k1 k2 k3 t1 t2 t3 u1 u2 u3 u4 u5 u6 u7 : Tok) (shift low high most room : Int) (n1 n2 : Nat) (rest : List (Addr × Obj))
    (ho : OwnOff rest [sa, c, dc, ba]) (hn1 : @Ne Nat c dc) (hn2 : @Ne Nat c ba) (hn3 : @Ne Nat dc ba) (hn4 : @Ne Nat sa c) (hn5 : @Ne Nat sa dc) (hn6 : @Ne Nat sa ba)
    (hb : 0 ≤ b) (hm : 0 ≤ m) (hm' : m < 2147483647) (hs0 : 0 ≤ shift) (hs1 : shift < 4)
    (h0 : 0 ≤ low) (h1 : low < high) (h2 : high < 1000) (h3 : 0 ≤ most) (h4 : most < 1000) (hr0 : 20 ≤ room) (hr1 : room < 50) :
    Claim w 12 214 [.ref sa, .int shift u1, .ref c, .ref ba, .int room u2] ((sa, listOf #[.int b u3, .int m u4] n1) :: (c, instObj 120 dc) :: (dc, curveObj w k1 k2 k3 low t1 high t2 most t3) :: (ba, { cls := .type "tuple", data := .seq #[.int low u5, .int high u6, .int most u7] n2 }) :: rest)
      (fun r news' => r = .bool true ∧ ∃ (b m : Int) (u3 u4 : Tok) (n1 : Nat), 0 ≤ b ∧ 0 ≤ m ∧ m < 2147483647 ∧ news' = (sa, listOf #[.int b u3, .int m u4] n1) :: (c, instObj 120 dc) :: (dc, curveObj w k1 k2 k3 low t1 high t2 most t3) :: (ba, { cls := .type "tuple", data := .seq #[.int low u5, .int high u6, .int most u7] n2 }) :: rest) := by
  unfold Claim
  k_with_none
  w_top off
  k_fill
  intro mean mg mb dp un gd cn cs a ccd cl outer A₀ base h₀ L m s Q E B F X N T hk hd hu hret
  refine wpAny_call ?_
  k_dflt cell_enter
  k_with "ne" => k_dflt (first
    | refine ne_tups (by k_asm) (by k_mem) (by k_mem) (by ktr_units) ?_
    | refine ne_nil_nil (by k_asm) (by k_mem) (by k_mem) (by ktr_units) ?_
    | refine ne_nil_cons (Z := Z) (by k_asm) (by k_mem) (by k_mem) (by walk_at "allmem") (by assumption) (by ktr_units) ?_)
  k_with "eq" => k_dflt (refine eq_lists (Z := Z) (by k_asm) (by k_mem) (by k_mem) (by walk_at "allmem") (QJ.t1 hJ |>.mono hTZ) (QJ.t2 hJ |>.mono hTZ) (by ktr_units) ?_)
  k_with "comp" => k_dflt (
    refine LCp.SrcLP.ledger (by rfl) (by k_asm) (by k_asm) (by k_mem) (by rw [PySem.sizeLine_eq, List.size_toArray]; omega) ?_
    intro g'
    refine sizes_comp (Z := Z) (QJ.t2 hJ |>.mono hTZ) (by walk_at "allmem") (by rfl) (fun a' b' t' u' ys' I' oI' C' oC' D' m' h' tk' E' hC' hx' hx2' F' N' off' ne' => ?_) (fun ys' hI' => ?_)
    all_goals (try (simp only [LCg.Off3, and_true] at off')))
  k_with "iter" => k_dflt (
    refine queue_loop3 ⟨sa, c, dc, ba, _, _, _, _, _, _, _, shift, room, _, _, (c, instObj 120 dc) :: (dc, curveObj w k1 k2 k3 low t1 high t2 most t3) :: (ba, { cls := .type "tuple", data := .seq #[.int low u5, .int high u6, .int most u7] n2 }) :: rest⟩ ⟨_, _, 0, 0, 0, _, _, _, _, _, _, 0, _, _, _, _, _, _, _, _, _, _, _, _, _, [], [], [_], [0], [], [], fun _ => none⟩
      (by rfl) (by assumption) (small_one (by omega) (by omega) (by omega) (by omega)) (rangeSize_toNat _) (by k_asm) (by k_asm) (by exact ⟨⟨_, rfl⟩, rfl, rfl, rfl, rfl, rfl, rfl, rfl, rfl, rfl⟩)
      (by (unfold QS.led; dsimp only [qL, List.nil_append]; walk_at "allmem")) (QJ.start (by assumption) (by assumption) (by assumption) (by dsimp only; omega) (by assumption) (by assumption)) (List.forall_mem_nil _) (by dsimp only; omega)
      (by (dsimp only; refine off_cons (by omega) (off_cons (by omega) (off_cons (by omega) (off_rest (by k_all) (by k_all) (by k_all) (by k_all) (by k_all) (by k_all)))))) (by omega) ?_ ?_ ?_ ?_
    all_goals dsimp only
    intro k t h tk Z b2 m2 p oc dd u3' u4' kA kB tS tP tp kk1 kk2 kk3 kk4 kk5 r1 r2 r3 r4 nn1 nv1 nv2 nt tv u R hZ hb2 hm2 hm2' F2 N2 hR
    dsimp only [qL, qM, PyProof.Rows.envOf] at F2 N2 hR
    rotate_left
    intro k t h tk Z b2 m2 p oc dd u3' u4' kA kB tS tP tp kk1 kk2 kk3 kk4 kk5 r1 r2 r3 r4 nn1 nv1 nv2 nt a1 a2 s1 i1 w1 w2 w3 w4 c1 c2 v1 v2 tv xs u R hZ hb2 hm2 hm2' hs1' hso hor hl1 hl2 hT na1 na2 F2 N2 hR1 hR2
    dsimp only [qL, qM, PyProof.Rows.envOf] at F2 N2 hR1 hR2
    rotate_left
    intro k t h tk Z T b2 m2 p oc dd u3' u4' kA kB tS tP tp kk1 kk2 kk3 kk4 kk5 r1 r2 r3 r4 nn1 nv1 nv2 nt v1 v2 tv tl xs u R hk0 hk1 hZ hfz hTZ hJ hoc0 F2 N2 hR
    have hb2 := QJ.hb hJ
    have hm2 := QJ.hm hJ
    have hm2' := QJ.hm' hJ
    have hpp := QJ.p0 hJ
    have hpb := QJ.pbound hJ (by assumption) (by assumption) (by assumption)
    have hlb := QJ.bounds hJ hk1
    have hor := QJ.hroom hJ
    have htd := QJ.told hJ
    have hd0 := QJ.d0 hJ
    have hd1 := QJ.d1 hJ
    have N3 := qL_ext N2 [(c, instObj 120 dc), (dc, curveObj w k1 k2 k3 low t1 high t2 most t3), (ba, { cls := .type "tuple", data := .seq #[.int low u5, .int high u6, .int most u7] n2 })] (List.forall_mem_cons.mpr ⟨hfz _ (List.Mem.head _), List.forall_mem_cons.mpr ⟨hfz _ (List.Mem.tail _ (List.Mem.head _)), List.forall_mem_cons.mpr ⟨hfz _ (List.Mem.tail _ (List.Mem.tail _ (List.Mem.head _))), List.forall_mem_nil _⟩⟩⟩)
    clear N2
    dsimp only [qL, qM, PyProof.Rows.envOf, List.cons_append, List.nil_append] at F2 N3 hor hpb
    rotate_left
    intro h tk Z T b2 m2 p oc dd u3' u4' kA kB tS tP tp kk1 kk2 kk3 kk4 kk5 r1 r2 r3 r4 nn1 nv1 nv2 nt v1 v2 tv tl xs u hZ hfz hTZ hJ F2 N2
    have hlb := QJ.bounds hJ (by omega)
    have hb2 := QJ.hb hJ
    have hm2 := QJ.hm hJ
    have hm2' := QJ.hm' hJ
    dsimp only [qL, qM, PyProof.Rows.envOf] at F2 N2
    rotate_left)
  iterate 145 (first | (k_unfold; (try dsimp only)) | walk1 | (dsimp only; walk1))
  rotate_left 3
  focus
    k_steps
    (try dsimp only)
    (refine hret _ _ _ _ ⟨by simp, _, _, _, _, _, hb2, hm2, hm2', rfl⟩ (by k_asm) (news_sub (by k_asm) (List.forall_mem_cons.mpr ⟨by k_mem, fun p hp => ?_⟩)))
    have hz := hfz p hp
    repeat (first | exact hz | apply List.mem_cons_of_mem)
  focus
    k_steps
    all_goals (try dsimp only)
    all_goals (refine hR _ _ _ _ _ _ _ ?_ ?_ ?_ (by k_asm) (news_sub (by k_asm) (by walk_at "allmem")) <;> assumption)
  focus
    k_steps
    all_goals (try dsimp only)
    all_goals first
      | (refine hR1 _ _ _ _ _ _ _ ?_ ?_ ?_ (by k_asm) (news_sub (by k_asm) (by walk_at "allmem")) <;> assumption)
      | (refine hR2 _ _ _ _ _ _ _ _ _ _ ?_ ?_ ?_ (by k_asm) (news_sub (by k_asm) (by walk_at "allmem")) <;> assumption)
  focus
    k_steps
    all_goals (try dsimp only)
    all_goals (try (rename _ = avgStep _ _ _ => hq; subst hq))
    iterate 2
      focus
        apply hR _ _ _ _ []
        rotate_left 6
        (focus k_asm)
        rotate_right 6
        (focus ((refine news_sub (by k_asm) ?_); (dsimp only [qL, List.nil_append]); walk_at "allmem"))
        (focus (first | exact .inl rfl | exact .inr rfl))
        (focus exact ⟨⟨_, rfl⟩, rfl, rfl, rfl, rfl, rfl, rfl, rfl, rfl, rfl⟩)
        (focus exact (List.forall_mem_nil _))
        (focus exact (fun p hp b hb => by cases hb))
        (focus ((refine QJ.stay hJ (by assumption) (by assumption) ?_ ?_ ?_ rfl ?_ (fun q h => h)); (all_goals first | assumption | exact .inl rfl | exact .inr rfl)))
    focus
      apply hR _ _ _ _ [(_, _), (_, _)]
      rotate_left 6
      (focus k_asm)
      rotate_right 6
      refine news_sub (by k_asm) ?_
      dsimp only [qL, List.cons_append, List.nil_append]
      iterate 8 (refine List.forall_mem_cons.mpr ⟨by k_mem, ?_⟩)
      rotate_left 5
      apply QJ.both hJ (by assumption) (by assumption)
      (focus assumption)
      (focus assumption)
      (focus assumption)
      (focus rfl)
      (focus (exact fun q h => .tail _ (.tail _ h)))
      (focus rfl)
      (focus omega)
      (focus (dsimp only; omega))
      (focus exact List.Mem.head _)
      (focus exact List.Mem.tail _ (List.Mem.head _))
      rotate_right 5
      (focus walk_at "allmem")
      (focus (first | exact .inl rfl | exact .inr rfl))
      (focus exact ⟨⟨_, rfl⟩, rfl, rfl, rfl, rfl, rfl, rfl, rfl, rfl, rfl⟩)
      (focus exact List.forall_mem_cons.mpr ⟨(show @LT.lt Nat _ _ _ from by ((try dsimp only); omega)), List.forall_mem_cons.mpr ⟨(show @LT.lt Nat _ _ _ from by ((try dsimp only); omega)), List.forall_mem_nil _⟩⟩)
      rename (@LT.lt Nat _ _ _) ∧ (@LT.lt Nat _ _ _) ∧ _ => hA
      have hlt := hA.1
      clear hA
      rename (@LT.lt Nat _ _ _) ∧ (@LT.lt Nat _ _ _) ∧ _ => hB
      repeat (replace hB := And.right hB)
      exact off2 (allLt_ne hB (by omega)) (allLt_ne hB (by omega))

end Mine
end
section
open PySem PySem.W PySem.Calls PyProof.Rows PySem.Spec
set_option maxRecDepth 100000
set_option linter.unusedVariables false
namespace Mine

abbrev tupleOf (vs : List Value) : Obj := { cls := .type "tuple", data := .seq vs.toArray }
abbrev excObj (C t : Addr) : Obj := { cls := .ref C, data := .fields #[.ref t, .none, .none, .none, .bool false, .none] }

/-- what the making of an exception of a class of the text's own reads of that class -/
structure ExcFacts (M : Model) (h : Heap) (C : Addr) (B newId : String) : Prop where
  obj : ∃ nm q N bs bm hdct sn sub ab col dd k0 k1 k2 k3 k5, h.get? C = some (excClassObj nm q C N bs bm hdct sn sub ab col dd k0 k1 k2 k3 k5 newId) ∧
    bm.contains (.type B) = true ∧ bm.contains (.type "AttributeError") = false ∧ bm.contains (.type "NameError") = false ∧ bm.contains (.type "BaseException") = true
  call : Looks M h (specialOf (.ref C) "__call__") (some (.builtin "type.__call__"))
  typ : Looks M h (isInstance (.ref C) (.type "type")) true

def excMk (K : Frag) (C : Addr) (B newId : String) : Bool := match K.lookup C with
  | some ⟨.type "type", _, .cls cd, sl⟩ => (match cd.mro, sl.toList with
    | .ref C' :: bm, [_, _, _, _, some (.builtin n), _] => C' == C && n == newId && !cd.hasDel && bm.contains (.type B) && !bm.contains (.type "AttributeError") && !bm.contains (.type "NameError") && bm.contains (.type "BaseException") &&
        specialIn K (.ref C) "__call__" == some (some (.builtin "type.__call__")) && instIn K (.ref C) (.type "type") == some true
    | _, _ => false)
  | _ => false

theorem excFacts_of {K : Frag} {M : Model} {h : Heap} (X : K.In h) {C : Addr} {B newId : String} (q : excMk K C B newId = true) : ExcFacts M h C B newId := by
  unfold excMk at q
  split at q
  · rename_i dd cd sl ho
    split at q
    · rename_i C' bm k0 k1 k2 k3 n k5 hm hs
      simp only [Bool.and_eq_true, beq_iff_eq, Bool.not_eq_true'] at q
      obtain ⟨⟨⟨⟨⟨⟨⟨⟨rfl, rfl⟩, hdel⟩, e1⟩, e2⟩, e3⟩, e4⟩, e5⟩, e6⟩ := q
      obtain ⟨nm, bs, mro, ns, qn, hd, sn, sub, ab, col, del⟩ := cd
      dsimp only at hm hdel
      subst hm hdel
      have hsl : sl = #[k0, k1, k2, k3, some (.builtin n), k5] := by
        obtain ⟨l⟩ := sl
        simp only at hs
        rw [hs]
      subst hsl
      exact ⟨⟨nm, qn, ns, bs, bm, hd, sn, sub, ab, col, dd, k0, k1, k2, k3, k5, X _ _ ho, e1, e2, e3, e4⟩, looks_specialIn X e5, looks_instIn X e6⟩
    · cases q
  · cases q

section
variable {M : Model} {A : Around} {E : Value → Shared → Prop} {h : Heap} {g : Array GenState} {d : Drawn} {t : Nat} {os : OsState}
variable {nm q : Str} {C N : Addr} {bs bm bmB : List Value} {hdct : Bool} {sn : List Str} {sub : List Value} {ab : Bool} {col : Option Bool} {dd : Option Addr} {k0 k1 k2 k3 k5 : Option Value} {B newId initId : String}
theorem check_newE (F : ExcBaseFacts B newId initId bmB) (hB : bm.contains (.type B) = true) {rest : List Value} {Q : Unit → Shared → Prop} (hC : h.get? C = some (excClassObj nm q C N bs bm hdct sn sub ab col dd k0 k1 k2 k3 k5 newId))
    (hq : Q () ⟨h, g, d, t, os⟩) : wpAny M A (checkBuiltinCall newId ⟨.ref C :: rest, []⟩) Q E ⟨h, g, d, t, os⟩ := by
  have hcont : (Value.ref C :: bm).contains (.type B) = true := by rw [List.contains_cons, hB, Bool.or_true]
  have hstar := F.noStar
  simp only [checkBuiltinCall, F.newKind, F.newSplit, F.newRow]
  repeat (first | refine wpAny_loadPart_at hC ?_ | (refine wpAny_isSubtype_exc hC ?_; rw [hcont]) | refine wpAny_staticBase_exc hC ?_ | refine wpAny_madeBy_exc hC ?_ | simp only [bne_self_eq_false, Bool.false_eq_true, if_false] | wp_step)
  exact hq
end

section
variable {prog : Program} {w : World} {A : Around} {R : Result → Shared → Prop} {h : Heap} {g : Array GenState} {d : Drawn} {t : Nat} {os : OsState}
variable {nm q : Str} {C N : Addr} {bs bm bmB : List Value} {hdct : Bool} {sn : List Str} {sub : List Value} {ab : Bool} {col : Option Bool} {dd : Option Addr} {k0 k1 k2 k3 k5 : Option Value} {B newId initId : String}
theorem code_newE (F : ExcBaseFacts B newId initId bmB) (hB : bm.contains (.type B) = true) (hAt : bm.contains (.type "AttributeError") = false) (hNm : bm.contains (.type "NameError") = false) {rest : List Value}
    (hC : h.get? C = some (excClassObj nm q C N bs bm hdct sn sub ab col dd k0 k1 k2 k3 k5 newId)) (hrest : rest.length ≤ sizeLine)
    (hq : R (.ok (.ret (.ref (h.objs.size + 1)))) ⟨(h.push (tupleOf rest)).push (excObj C h.objs.size), g, d, t, os⟩) :
    codeAny (model prog w) A (.builtin newId ⟨.ref C :: rest, []⟩) R ⟨h, g, d, t, os⟩ := by
  have hends := F.ends
  have hcB : (Value.ref C :: bm).contains (.type B) = true := by rw [List.contains_cons, hB, Bool.or_true]
  have hcA : (Value.ref C :: bm).contains (.type "AttributeError") = false := by rw [List.contains_cons, hAt]; rfl
  have hcN : (Value.ref C :: bm).contains (.type "NameError") = false := by rw [List.contains_cons, hNm]; rfl
  refine codeAny_builtinAt F.entry ?_
  unfold Builtin.«BaseException.__new__»
  refine PySem.wpAt_bind ?_
  show PySem.wpAt _ _ _ (stack >>= _) _ _ _
  refine PySem.wpAt_bind (PySem.wpAt_stack fun p below => PySem.wpAt_of_wpAny ?_)
  wp_walk
  refine PySem.wpAt_of_wpAny ?_
  rw [F.owner]
  repeat (first | with_reducible refine wpAny_madeHere_exc F.canon hC ?_ | with_reducible refine wpAny_loadPart_at hC ?_ | (with_reducible refine wpAny_isSubtype_exc hC ?_; first | rw [hcB] | rw [hcA] | rw [hcN]) | wp_step)
  show R _ _
  rw [Heap.size_push]
  exact hq

set_option maxHeartbeats 4000000 in
theorem exc_core {rest : List Value} {init : Value} (F : ExcBaseFacts B newId initId bmB) (Y : ExcFacts (model prog w) h C B newId) (hi : Looks (model prog w) h (typeLookup (.ref C) "__init__") (some init))
    (hb : ∀ self, Looks (model prog w) h (bindSpecial init self) (init, [self])) (hrest : rest.length ≤ sizeLine)
    (hq : codeAny (model prog w) (A.under (.builtin "type.__call__" ⟨.ref C :: rest, []⟩)) (.call init ⟨.ref (h.objs.size + 1) :: rest, []⟩) (InitBack (h.objs.size + 1) R) ⟨(h.push (tupleOf rest)).push (excObj C h.objs.size), g, d, t, os⟩) :
    codeAny (model prog w) A (.call (.ref C) ⟨rest, []⟩) R ⟨h, g, d, t, os⟩ := by
  obtain ⟨⟨nm, q, N, bs, bm, hdct, sn, sub, ab, col, dd, k0, k1, k2, k3, k5, hC, hB, hAt, hNm, hBE⟩, call, typ⟩ := Y
  refine codeAny_of_tree ?_
  show wpAny _ _ (callAny (.ref C) _) _ _ _
  refine nd_load hC ?_
  show wpAny _ _ (callAny.viaDunder (.ref C) _) _ _ _
  unfold callAny.viaDunder
  refine wpAny_bind (call.at ?_)
  dsimp only
  rw [PySem.tc_bind]
  refine wpAny_bind (wpAny_pure (wpAny_bind (wpAny_pure ?_)))
  refine wpAny_pure (a := Fin.again (.call (.builtin "type.__call__") ⟨.ref C :: rest, []⟩)) (And.intro rfl ?_)
  refine codeAny_call_builtin_at (Code.quiet_builtin _ (by decide +kernel)) entry_typeCall (check_slot tc_kind tc_split typ (tc_args _ _ _) ?_)
  repeat (first | with_reducible refine wpAny_loadPart_at hC ?_ | with_reducible refine wpAny_madeBy_exc hC ?_ | wp_step)
  refine codeAny_call_builtin_code (Code.quiet_builtin _ F.quiet) (check_newE F hB hC ?_)
  refine code_newE F hB hAt hNm hC hrest ?_
  show wpAny _ _ _ _ _ _
  have k : ∀ b o, h.get? b = some o → ((h.push (tupleOf rest)).push (excObj C h.objs.size)).get? b = some o := fun b o e => Heap.get?_push_of_some _ (Heap.get?_push_of_some _ e)
  have hC₁ := k _ _ hC
  have hget : ((h.push (tupleOf rest)).push (excObj C h.objs.size)).get? (h.objs.size + 1) = some (excObj C h.objs.size) := by heap_get
  have hcC : (Value.ref C :: bm).contains (.ref C) = true := by simp
  have i1 := hi.keeps k
  have b1 := (hb (.ref (h.objs.size + 1))).keeps k
  have t1 : Looks (model prog w) ((h.push (tupleOf rest)).push (excObj C h.objs.size)) (typeOf (.ref (h.objs.size + 1))) (.ref C) := (Looks.ld hget).andThen .now
  have s1 : Looks (model prog w) ((h.push (tupleOf rest)).push (excObj C h.objs.size)) (isSubtype (.ref C) (.ref C)) true := fun A Q E s k q => by
    obtain ⟨hp, g, d, tk, os⟩ := s
    refine wpAny_isSubtype_exc (k _ _ hC₁) ?_
    rw [hcC]
    exact q
  unfold isInstance
  unfold callSpecial? specialOf
  repeat (first | with_reducible refine wpAny_call ?_ | lk)
  refine codeAny_mono hq fun r s' z => ?_
  rcases r with e | (v | _ | _ | _) <;> first | exact z | exact z.elim | skip
  obtain ⟨rfl, z⟩ := z
  exact wpAny_pure (wpAny_pure z)
end

section
variable {prog : Program} {w : World} {A : Around} {K : Frag} {C : Addr} {s : Shared} {h₀ : Heap} {L : Addr} {m : Str → Option Value} {news : List (Addr × Obj)} {Q E : Value → Shared → Prop} {B newId initId : String} {bmB : List Value}
theorem call_exc {pos : List Value} {fI : Addr} (FB : ExcBaseFacts B newId initId bmB) (F : Fr h₀ L s.heap m) (X₀ : K.In h₀) (N : News h₀ L s.heap news) (hm : excMk K C B newId = true) (hi : findIn K (.ref C) "__init__" = some (some (.ref fI)))
    (hf : isFn K (.ref fI) = true) (hrest : pos.length ≤ sizeLine)
    (h : ∀ x dx h', Fr h₀ L h' m → News h₀ L h' ((x, excObj C dx) :: (dx, tupleOf pos) :: news) → (∀ p ∈ news, p.1 < dx) → dx < x →
      codeAny (model prog w) (A.under (.builtin "type.__call__" ⟨.ref C :: pos, []⟩)) (.call (.ref fI) ⟨.ref x :: pos, []⟩) (InitBack x fun r s' => match r with | .ok (.ret v) => Q v s' | .ok _ => False | .error e => E e s') { s with heap := h' }) :
    wpAny (model prog w) A (call (.ref C) pos []) Q E s := by
  refine wpAny_call ?_
  have X := X₀.keeps F.keep
  have hf' : typeIn K (.ref fI) = some (.type "function") := beq_iff_eq.mp hf
  obtain ⟨hh, g, d, t, os⟩ := s
  refine exc_core FB (excFacts_of X hm) (looks_findIn X hi) (fun self => bind_fn X self hf') hrest (h _ hh.objs.size _ ((F.push _).push _) ?_ (fun p hp => Heap.lt_size (N p hp).1) (Nat.lt_succ_self _))
  have := (N.push F (tupleOf pos)).push (F.push _) (excObj C hh.objs.size)
  rwa [Heap.size_push] at this
end
end Mine
end
section
open PySem PySem.W PySem.Calls PyProof.Rows PySem.Spec Builtin.ObjectAttr
set_option maxRecDepth 100000
set_option linter.unusedVariables false
namespace Mine

theorem meta_Exception : typeOf (.type "Exception") = pure (.type "type") := by kernel_rfl

def ownThen (bm : List Value) : List Value → Bool
  | .ref _ :: r => ownThen bm r
  | l => l == bm
theorem refuse_own {bm : List Value} {self : Value} (hp : refuseLoop self "__setattr__" bm = pure ()) {l : List Value} (e : ownThen bm l = true) : refuseLoop self "__setattr__" l = pure () := by
  induction l with
  | nil => rw [beq_iff_eq.mp e]; exact hp
  | cons v r ih => cases v <;> first | (rw [refuseLoop_ref]; exact ih e) | (rw [beq_iff_eq.mp e]; exact hp)
theorem own_has {bm : List Value} {x : String} (h : bm.contains (.type x) = true) {l : List Value} (e : ownThen bm l = true) : l.contains (.type x) = true := by
  induction l with
  | nil => rw [beq_iff_eq.mp e]; exact h
  | cons v r ih => cases v <;> first | (rw [List.contains_cons, ih e, Bool.or_true]) | (rw [beq_iff_eq.mp e]; exact h)

abbrev bmE : List Value := [.type "Exception", .type "BaseException", .type "object"]
def excOver (K : Frag) (C : Addr) : Bool := (clsIn K C).any fun cd => ownThen bmE cd.mro && cd.hasDict

section
variable {prog : Program} {w : World} {A : Around} {K : Frag} {C x : Addr} {s : Shared} {h₀ : Heap} {L : Addr} {m : Str → Option Value} {news : List (Addr × Obj)} {R : Result → Shared → Prop} {name : Str} {tk : Tok} {v : Value}

theorem osa_openE {ox : Obj} (X : K.In s.heap) (hx : s.heap.get? x = some ox) (hcl : ox.cls = .ref C) (hp : excOver K C = true) (ht : takerIn K C name = some none)
    (h : ∀ b, wpAny (model prog w) A.in1 (storeInOwnDict (.ref x) (.ref C) (.str name tk) name v b)
      (fun fin s' => match fin with | .done f => R (.ok f) s' | .again c' => c'.quiet = true ∧ codeAny (model prog w) A c' R s') (fun e s' => R (.error e) s') s) :
    codeAny (model prog w) A (.call (.builtin "object.__setattr__") ⟨[.ref x, .str name tk, v], []⟩) R s := by
  have SF := PySem.F.store_Exception
  obtain ⟨cd, hc, ho'⟩ := any_some hp
  obtain ⟨ho, hdct⟩ := Bool.and_eq_true_iff.mp ho'
  have ne : cd.mro.isEmpty = false := by cases q : cd.mro with | nil => rw [q] at ho; cases ho | cons _ _ => rfl
  have Ty : Looks (model prog w) s.heap (typeOf (.ref x)) (.ref C) := by rw [← hcl]; exact (Looks.ld hx).andThen .now
  have sub : Looks (model prog w) s.heap (isInstance (.ref x) (.type "object")) true := Ty.andThen (looks_mroIn X (by unfold mroIn; rw [hc, Option.bind_some, if_neg (by rw [ne]; decide), own_has (x := "object") (by decide +kernel) ho]))
  refine codeAny_call_builtin SF.slot.plain SF.entry (@check_slot (model prog w) _ _ s "object.__setattr__" "object" "__setattr__" (.ref x) [.str name tk, v] [] _ SF.kind SF.split sub (SF.args (.ref x) (.str name tk) v) ?_)
  obtain ⟨attr, ha, hr⟩ := Option.bind_eq_some_iff.mp ht
  have hm : Looks (model prog w) s.heap (mroOf (.ref C)) cd.mro := (looks_clsIn X hc).andThen .now
  have L3 : Looks (model prog w) s.heap (storeTaker? attr) none := by
    cases attr with
    | none => exact .now
    | some a =>
      obtain ⟨b, hb, hr'⟩ := Option.map_eq_some_iff.mp hr
      refine (looks_takesIn X hb).andThen ?_
      cases b
      · exact .now
      · cases hr'
  rw [osa_eq, refuse_eq]
  refine wpAny_bind (wpAny_bind (Ty.here (wpAny_bind (hm.here ?_))))
  rw [refuse_own (SF.passes _) ho]
  refine wpAny_pure (wpAny_bind (Ty.here (wpAny_bind ((looks_findIn X ha).here (wpAny_bind (L3.here ?_))))))
  exact h _

/-- an attribute of an exception that has its own dict already -/
theorem osa_dictE {ox : Obj} {dx : Addr} {g : Obj → List (Addr × Obj)} {es : List DictEntry} {es' : Tok → List DictEntry} {n n' : Nat} (F : Fr h₀ L s.heap m) (N : News h₀ L s.heap news) (X : K.In s.heap) (hx : s.heap.get? x = some ox) (hcl : ox.cls = .ref C) (hd : ox.dict = some dx) (hp : excOver K C = true) (ht : takerIn K C name = some none)
    (hl : (getL name es).isSome = true) (U : UpdF dx (dictOf es n) news g) (e : ∀ tk', (putL name (PyData.keyHash w.params name) (.str name tk') v es, putN name es n) = (es' tk', n')) (hz : ∀ tk', (es' tk').length ≤ 1000)
    (h : ∀ h' tk', Fr h₀ L h' m → News h₀ L h' (g (dictOf (es' tk') n')) → R (.ok (.ret .none)) { s with heap := h', toks := s.toks + 1 }) :
    codeAny (model prog w) A (.call (.builtin "object.__setattr__") ⟨[.ref x, .str name tk, v], []⟩) R s := by
  refine osa_openE X hx hcl hp ht fun b => ?_
  obtain ⟨cd, hc, ho'⟩ := any_some hp
  obtain ⟨ho, hdct⟩ := Bool.and_eq_true_iff.mp ho'
  obtain ⟨pre, post, rfl, hg, h1, h2⟩ := U.split
  have e1 := e s.toks
  obtain ⟨e1, e2⟩ := Prod.mk.inj e1
  obtain ⟨U1, U2⟩ := news_upd (f := Obj.putName name (PyData.keyHash w.params name) (.str name s.toks) v) F N h1 h2 (by rw [putName_dict, e1, e2]) rfl
  have D := (N (dx, dictOf es n) (List.mem_append.mpr (.inr (.head _)))).1
  have D' := (U2 (dx, _) (List.mem_append.mpr (.inr (.head _)))).1
  obtain ⟨oc, odi, oda, osl⟩ := ox
  dsimp only at hcl hd
  subst hcl hd
  refine wpAny_bind (wpAny_pure (wpAny_bind (wpAny_bind (wpAny_loadPart hx (wpAny_bind ((looks_clsIn X hc).here ?_))))))
  rw [hdct]
  refine wpAny_pure (a := some dx) (wpAny_bind (wpAny_pure (wpAny_bind ?_)))
  unfold nsSet
  refine wpAny_bind (wpAny_bind (wpAny_askSetting (wpAny_pure (wpAny_bind (wpAny_mkText (wpAny_bind (wpAny_loadPart D ?_)))))))
  unfold getL at hl
  have c : (!(es.toArray).any (·.key.isStr name) && (es.toArray).any (·.refKey)) = false := by
    rw [← Array.any_toList, ← Array.any_toList]
    split at hl
    · rename_i en he
      rw [List.any_eq_true.mpr ⟨en, List.mem_of_find?_eq_some he, List.find?_some he⟩]; rfl
    · split at hl
      · cases hl
      · rename_i z; rw [Bool.not_eq_true] at z; rw [z, Bool.and_false]
  dsimp only
  rw [aRefKeyMayBeTheName_at, c]
  refine wpAny_updatePart D ?_
  refine wpAny_bind (wpAny_lookBehind D' (pastItsLine_dict (by have := hz s.toks; rw [List.size_toArray, sizeLine_eq]; omega)) ?_)
  exact wpAny_pure (h _ s.toks U1 (by rw [hg]; exact U2))

/-- the first attribute of an exception: its dict is made -/
theorem osa_newE {vs : Array Value} {g : Obj → List (Addr × Obj)} (F : Fr h₀ L s.heap m) (N : News h₀ L s.heap news) (X : K.In s.heap) (hp : excOver K C = true) (ht : takerIn K C name = some none)
    (U : UpdF x { cls := .ref C, data := .fields vs } news g)
    (h : ∀ d h' tk', Fr h₀ L h' m → News h₀ L h' ((d, dictOf [⟨PyData.keyHash w.params name, .str name tk', v⟩] 1) :: g { cls := .ref C, dict := some d, data := .fields vs }) → (∀ p ∈ news, p.1 < d) → R (.ok (.ret .none)) { s with heap := h', toks := s.toks + 1 }) :
    codeAny (model prog w) A (.call (.builtin "object.__setattr__") ⟨[.ref x, .str name tk, v], []⟩) R s := by
  obtain ⟨pre, post, rfl, hg, h1, h2⟩ := U.split
  have hx := (N (x, _) (List.mem_append.mpr (.inr (.head _)))).1
  refine osa_openE X hx rfl hp ht fun b => ?_
  obtain ⟨cd, hc, ho'⟩ := any_some hp
  obtain ⟨ho, hdct⟩ := Bool.and_eq_true_iff.mp ho'
  obtain ⟨hh, gg, d, t, os⟩ := s
  have lt : ∀ p ∈ pre ++ (x, ({ cls := .ref C, data := .fields vs } : Obj)) :: post, p.1 < hh.objs.size := fun p hp => Heap.lt_size (N p hp).1
  have F1 := F.push emptyDict
  have N1 := N.push F emptyDict
  have hxs : @Ne Nat hh.objs.size x := Nat.ne_of_gt (lt (x, _) (List.mem_append.mpr (.inr (.head _))))
  obtain ⟨F2, N2⟩ := news_upd (f := fun o => { o with dict := some hh.objs.size }) (pre := (hh.objs.size, emptyDict) :: pre) (post := post) F1 N1 (fun p hp => by
    rcases List.mem_cons.mp hp with rfl | hp
    · exact hxs
    · exact h1 p hp) h2 rfl rfl
  obtain ⟨F3, N3⟩ := news_upd (f := Obj.putName name (PyData.keyHash w.params name) (.str name t) v) (pre := []) F2 N2 (fun p hp => by cases hp) (fun p hp => by
    rcases List.mem_append.mp hp with hp | hp
    · exact Nat.ne_of_lt (lt p (List.mem_append.mpr (.inl hp)))
    · rcases List.mem_cons.mp hp with rfl | hp
      · exact hxs.symm
      · exact Nat.ne_of_lt (lt p (List.mem_append.mpr (.inr (.tail _ hp))))) (putName_dict name _ _ v [] 0) rfl
  have D := (N2 (hh.objs.size, emptyDict) (.head _)).1
  have D' := (N3 (hh.objs.size, _) (.head _)).1
  refine wpAny_bind (wpAny_pure (wpAny_bind (wpAny_bind (wpAny_loadPart hx (wpAny_bind ((looks_clsIn X hc).here ?_))))))
  rw [hdct]
  refine wpAny_bind (wpAny_alloc' ?_)
  refine wpAny_bind (wpAny_update' (Heap.get?_push_of_some _ hx) ?_)
  refine wpAny_pure (wpAny_bind ?_)
  refine wpAny_pure ?_
  refine wpAny_bind ?_
  unfold nsSet
  refine wpAny_bind (wpAny_bind (wpAny_askSetting (wpAny_pure (wpAny_bind (wpAny_mkText (wpAny_bind (wpAny_loadPart D ?_)))))))
  dsimp only
  rw [aRefKeyMayBeTheName_at, show (!(#[] : Array DictEntry).any (·.key.isStr name) && (#[] : Array DictEntry).any (·.refKey)) = false from by simp]
  refine wpAny_updatePart (by exact D) ?_
  refine wpAny_bind (wpAny_lookBehind D' (pastItsLine_dict (by simp [putL, sizeLine_eq])) ?_)
  exact wpAny_pure (h _ _ t F3 (by rw [hg]; exact N3) lt)
end
end Mine
end
section
open PySem PySem.W PySem.Calls PyProof.Rows PySem.Spec
set_option maxRecDepth 100000
set_option linter.unusedVariables false
namespace Mine
section
variable {prog : Program} {w : World} {A : Around} {K : Frag} {C x : Addr} {s : Shared} {h₀ : Heap} {L : Addr} {m : Str → Option Value} {news : List (Addr × Obj)} {E : Value → Shared → Prop} {name : Str} {v : Value}

theorem set_plainE {ox : Obj} {Q : Unit → Shared → Prop} (X : K.In s.heap) (hx : s.heap.get? x = some ox) (hcl : ox.cls = .ref C)
    (hs : findIn K (.ref C) "__setattr__" = some (some (.builtin "object.__setattr__")))
    (h : codeAny (model prog w) A (.call (.builtin "object.__setattr__") ⟨[.ref x, .str name s.toks, v], []⟩) (fun r s' => match r with | .ok (.ret _) => Q () s' | .ok _ => False | .error e => E e s') { s with toks := s.toks + 1 }) :
    wpAny (model prog w) A (setAttr (.ref x) name v) Q E s := by
  have Ty : Looks (model prog w) s.heap (typeOf (.ref x)) (.ref C) := by rw [← hcl]; exact (Looks.ld hx).andThen .now
  refine wpAny_bind (wpAny_mkText (wpAny_bind (wpAny_bind (wpAny_bind (Ty _ _ _ _ (fun _ _ e => e) (looks_findIn X hs _ _ _ _ (fun _ _ e => e) (wpAny_holding ?_)))))))
  rw [PySem.F.store_object.slot.bind]
  refine wpAny_bind (wpAny_pure (wpAny_bind (wpAny_call (codeAny_mono h fun r s' z => ?_))))
  rcases r with e | (v | _ | _ | _) <;> first | exact z | exact wpAny_pure (wpAny_pure z)

theorem set_exc0 {vs : Array Value} {g : Obj → List (Addr × Obj)} {Q : Unit → Shared → Prop} (F : Fr h₀ L s.heap m) (X₀ : K.In h₀) (N : News h₀ L s.heap news) (U : UpdF x { cls := .ref C, data := .fields vs } news g)
    (hs : findIn K (.ref C) "__setattr__" = some (some (.builtin "object.__setattr__"))) (hp : excOver K C = true) (ht : takerIn K C name = some none)
    (h : ∀ d h' tk tk', Fr h₀ L h' m → News h₀ L h' ((d, dictOf [⟨PyData.keyHash w.params name, .str name tk', v⟩] 1) :: g { cls := .ref C, dict := some d, data := .fields vs }) → (∀ p ∈ news, p.1 < d) → Q () { s with heap := h', toks := tk }) :
    wpAny (model prog w) A (setAttr (.ref x) name v) Q E s := by
  have hx : s.heap.get? x = some { cls := .ref C, data := .fields vs } := by
    obtain ⟨pre, post, rfl, hg, h1, h2⟩ := U.split
    exact (N (x, _) (List.mem_append.mpr (.inr (.head _)))).1
  exact set_plainE (X₀.keeps F.keep) hx rfl hs (osa_newE (s := { s with toks := s.toks + 1 }) F N (X₀.keeps F.keep) hp ht U fun d h' tk' F' N' l => h d h' _ tk' F' N' l)

theorem set_exc1 {vs : Array Value} {dx : Addr} {g : Obj → List (Addr × Obj)} {es : List DictEntry} {es' : Tok → List DictEntry} {n n' : Nat} {Q : Unit → Shared → Prop} (F : Fr h₀ L s.heap m) (X₀ : K.In h₀) (N : News h₀ L s.heap news) (hx : (x, ({ cls := .ref C, dict := some dx, data := .fields vs } : Obj)) ∈ news) (U : UpdF dx (dictOf es n) news g)
    (hs : findIn K (.ref C) "__setattr__" = some (some (.builtin "object.__setattr__"))) (hp : excOver K C = true) (ht : takerIn K C name = some none)
    (hl : (getL name es).isSome = true) (e : ∀ tk', (putL name (PyData.keyHash w.params name) (.str name tk') v es, putN name es n) = (es' tk', n')) (hz : ∀ tk', (es' tk').length ≤ 1000)
    (h : ∀ h' tk tk', Fr h₀ L h' m → News h₀ L h' (g (dictOf (es' tk') n')) → Q () { s with heap := h', toks := tk }) :
    wpAny (model prog w) A (setAttr (.ref x) name v) Q E s :=
  set_plainE (X₀.keeps F.keep) (N _ hx).1 rfl hs (osa_dictE (s := { s with toks := s.toks + 1 }) F N (X₀.keeps F.keep) (N _ hx).1 rfl rfl hp ht hl U e hz fun h' tk' F' N' => h h' _ tk' F' N')

/-- Exception.__init__ called by its name -/
theorem exc_init {t0 : Addr} {newId : String} {vs : List Value} {g : Obj → List (Addr × Obj)} {Q : Value → Shared → Prop} (F : Fr h₀ L s.heap m) (X₀ : K.In h₀) (N : News h₀ L s.heap news) (U : UpdF x (excObj C t0) news g)
    (hm : excMk K C "Exception" newId = true) (hvs : vs.length ≤ sizeLine)
    (h : ∀ t h', Fr h₀ L h' m → News h₀ L h' ((t, tupleOf vs) :: g (excObj C t)) → (∀ p ∈ news, p.1 < t) → Q .none { s with heap := h' }) :
    wpAny (model prog w) A (call (.builtin "Exception.__init__") (.ref x :: vs)) Q E s := by
  have Fa := PySem.F.excBase_Exception
  obtain ⟨pre, post, rfl, hg, h1, h2⟩ := U.split
  have X := X₀.keeps F.keep
  obtain ⟨hh, gg, d, t, os⟩ := s
  have hx := (N (x, excObj C t0) (List.mem_append.mpr (.inr (.head _)))).1
  obtain ⟨⟨nm, q, NN, bs, bm, hdct, sn, sub, ab, col, dd, k0, k1, k2, k3, k5, hC, hB, hAt, hNm, hBE⟩, _, _⟩ := excFacts_of (M := model prog w) X hm
  have hcB : (Value.ref C :: bm).contains (.type "Exception") = true := by rw [List.contains_cons, hB, Bool.or_true]
  have lt : ∀ p ∈ pre ++ (x, excObj C t0) :: post, p.1 < hh.objs.size := fun p hp => Heap.lt_size (N p hp).1
  have F1 := F.push (tupleOf vs)
  have N1 := N.push F (tupleOf vs)
  have hxs : @Ne Nat hh.objs.size x := Nat.ne_of_gt (lt (x, _) (List.mem_append.mpr (.inr (.head _))))
  obtain ⟨F2, N2⟩ := news_upd (f := Obj.mapFields (·.setIfInBounds 0 (.ref hh.objs.size))) (pre := (hh.objs.size, tupleOf vs) :: pre) (post := post) F1 N1 (fun p hp => by
    rcases List.mem_cons.mp hp with rfl | hp
    · exact hxs
    · exact h1 p hp) h2 (o' := excObj C hh.objs.size) rfl rfl
  refine wpAny_call (codeAny_call_builtin Fa.init.plain Fa.initEntry ?_)
  have hshort := Fa.noStar
  simp only [checkBuiltinCall, Fa.initKind, Fa.initSplit, Fa.initRow]
  repeat (first | (with_reducible refine wpAny_loadPart_at hx ?_) | with_reducible refine wpAny_loadPart_at hC ?_ | (with_reducible refine wpAny_isSubtype_exc hC ?_; rw [hcB]) | wp_step)
  refine wpAny_onRaise ?_
  rw [show ∀ (a b : String) (n : Nat), Bind.check ⟨.positional, "*", "Exception", .self, [⟨"args", .varPos, false⟩]⟩ a b n (List.map (fun x => x.fst) ({ pos := Value.ref x :: vs } : Args).kw) = pure () from
    fun a b n => check_star_args _ _ _ _ _ _]
  refine wpAny_pure ?_
  wp_walk
  exact h _ _ F2 (by rw [hg]; exact N2) lt
end
end Mine
end
section
open PySem PySem.W PySem.Calls PyProof.Rows PySem.Spec
set_option maxRecDepth 100000
set_option linter.unusedVariables false
namespace Mine

abbrev excObjD (C t : Addr) (dx : Option Addr) : Obj := { cls := .ref C, dict := dx, data := .fields #[.ref t, .none, .none, .none, .bool false, .none] }

def RaisableE (M : Model) (C : Addr) (newId : String) (E : Value → Shared → Prop) (v : Value) (s₁ : Shared) : Prop :=
  ∃ e t dx, v = .ref e ∧ s₁.heap.get? e = some (excObjD C t dx) ∧ ExcFacts M s₁.heap C "Exception" newId ∧ E (.ref e) s₁

section
variable {M : Model} {A : Around} {E : Value → Shared → Prop} {s : Shared} {env : Env} {C : Addr} {newId : String}
theorem raise_ownE {ex : Expr} {pos : Pos} {Q : Flow → Shared → Prop} (hh : A.handled = none)
    (h : wpAny M A (eval ex env) (RaisableE M C newId E) E s) : wpAny M A (exec (.Raise (some ex) none pos) env) Q E s := by
  show wpAny M A (do standAt pos; raiseStmt env (some (do let v ← eval ex env; standAt pos; pure v)) none) Q E s
  refine wpAny_bind (wpAny_standAt ?_)
  unfold raiseStmt
  dsimp only
  refine wpAny_bind (wpAny_bind (wpAny_mono h (fun v s₁ h₁ => wpAny_bind (wpAny_standAt (wpAny_pure ?_))) fun _ _ x => x))
  obtain ⟨e, t, dx, rfl, he, ⟨⟨nm, q, NN, bs, bm, hdct, sn, sub, ab, col, dd, k0, k1, k2, k3, k5, hC, hB, hAt, hNm, hBE⟩, _, _⟩, hE⟩ := h₁
  have hcB : (Value.ref C :: bm).contains (.type "BaseException") = true := by rw [List.contains_cons, hBE, Bool.or_true]
  obtain ⟨hp, g, d, tk, os⟩ := s₁
  repeat (first | with_reducible refine wpAny_loadPart_at he ?_ | with_reducible refine wpAny_loadPart_at hC ?_ | (with_reducible refine wpAny_isSubtype_exc hC ?_; rw [hcB]) | wp_step)
  exact wpAny_raiseNew_none hh hE
end

section
variable {prog : Program} {w : World} {K : Frag} {C x : Addr} {s : Shared} {h₀ : Heap} {L : Addr} {m : Str → Option Value} {news : List (Addr × Obj)} {E : Value → Shared → Prop} {newId : String}
theorem raisableE {t : Addr} {dx : Option Addr} (F : Fr h₀ L s.heap m) (X₀ : K.In h₀) (N : News h₀ L s.heap news) (hx : (x, excObjD C t dx) ∈ news) (hm : excMk K C "Exception" newId = true) (hE : E (.ref x) s) :
    RaisableE (model prog w) C newId E (.ref x) s := ⟨x, t, dx, rfl, (N _ hx).1, excFacts_of (X₀.keeps F.keep) hm, hE⟩
end

section
variable {M : Model} {A : Around} {E : Value → Shared → Prop} {s' : Shared} {base g : Heap} {outer : List Env} {L a e t C : Addr} {m : Str → Option Value} {name : Str} {scope : Scope} {cd : Value} {Q : Unit → Shared → Prop} {news news' : List (Addr × Obj)}
theorem leave_ownS {vs : List Value} {dx : Option Addr} (K : Below A base outer g) (F : Fr g L s'.heap m) (N : News g L s'.heap news) (he : (e, excObjD C t dx) ∈ news) (ht : (t, tupleOf vs) ∈ news)
    (hs : ∀ q ∈ news', q ∈ news) (h1 : ∀ q ∈ news', q.1 ≠ e) (h2 : ∀ q ∈ news', q.1 ≠ t)
    (hQ : ∀ h', RaisedS base g outer e (.ref C) t vs news' h' → g.UpToSlots h' → Q () { s' with heap := h' }) (hk : scope.kind = .function := by rfl) :
    wpAny M (A.deeper (envOf name scope L a cd)) (leaving (envOf name scope L a cd) (.ref e)) Q E s' := by
  have K' := K.push (name := name) (a := a) (cd := cd) F hk
  let as := e :: t :: (envOf name scope L a cd :: outer).filterMap (·.frame)
  have hin : ∀ env ∈ (envOf name scope L a cd :: outer), ∀ b, env.frame = some b → b ∈ as := fun env he b hb => .tail _ (.tail _ (List.mem_filterMap.mpr ⟨env, he, hb⟩))
  have gn : ∀ q ∈ news, g.get? q.1 = none := fun q hq => (N q hq).2.2
  have bn : ∀ q ∈ news, base.get? q.1 = none := fun q hq => fresh_of_stays K.stays (N q hq).2.2
  have st : base.StaysIn (hideAll s'.heap as) := fun b o q => hideAll_get _ (K'.stays b o q) fun hm => by
    rcases List.mem_cons.mp hm with rfl | hm
    · rw [bn _ he] at q; cases q
    rcases List.mem_cons.mp hm with rfl | hm
    · rw [bn _ ht] at q; cases q
    rw [(K'.frames.mem hm).1] at q; cases q
  have sg : ∀ b o, g.get? b = some o → b ∉ outer.filterMap (·.frame) → (hideAll s'.heap as).get? b = some o := fun b o q nm => hideAll_get _ (F.keep b o q) fun hm => by
    rcases List.mem_cons.mp hm with rfl | hm
    · rw [gn _ he] at q; cases q
    rcases List.mem_cons.mp hm with rfl | hm
    · rw [gn _ ht] at q; cases q
    rcases kts_mem hm with z | z
    · rw [z, kts_self F] at q; cases q
    · exact nm z
  have hl : ∀ q ∈ news', (hideAll s'.heap as).get? q.1 = some q.2 ∧ g.get? q.1 = none ∧ base.get? q.1 = none := fun q hq => by
    refine ⟨hideAll_get _ (N q (hs q hq)).1 fun hm => ?_, gn q (hs q hq), bn q (hs q hq)⟩
    rcases List.mem_cons.mp hm with hm | hm
    · exact h1 q hq hm
    rcases List.mem_cons.mp hm with hm | hm
    · exact h2 q hq hm
    obtain ⟨env, hev, hf⟩ := List.mem_filterMap.mp hm
    rcases List.mem_cons.mp hev with rfl | hev
    · exact (N q (hs q hq)).2.1 (Option.some.inj hf).symm
    · obtain ⟨o, ho, _⟩ := (K.frames.mem (List.mem_filterMap.mpr ⟨env, hev, hf⟩)).2
      rw [(N q (hs q hq)).2.2] at ho; cases ho
  have hen : (hideAll s'.heap as).get? e = none := hideAll_none _ (.head _)
  have htn : (hideAll s'.heap as).get? t = none := hideAll_none _ (.tail _ (.head _))
  refine wpAny_leaving_firstW (a0 := .ref t) K'.stack (funFrames_hide K'.frames hin) rfl (N _ he).1 (fun b o q => of_hideAll _ q) hen rfl rfl rfl fun h' hL => ?_
  obtain ⟨x1, ⟨_, _, x2⟩, x3, x4⟩ := hL
  exact hQ h' ⟨⟨_, st, sg, hl, ⟨x1, hen, x2, x3⟩, htn⟩, Heap.TupAt.of_slots ⟨_, _, (N _ ht).1, rfl, rfl⟩ x4⟩ ((Heap.UpToSlots.of_keeps F.keep).trans x4)
end
end Mine
end
section
open PySem PySem.W PySem.Calls PyProof.Rows PySem.Spec
set_option maxRecDepth 100000
set_option linter.unusedVariables false
namespace Mine
section
variable {prog : Program} {w : World} {A₀ A : Around} {s : Shared} {base h₀ : Heap} {L : Addr} {m : Str → Option Value} {env : Env} {news : List (Addr × Obj)} {K : Frag} {p : Program} {loose : List Str} {mean : ExcName → Option Value} {mg mb : Str → Option Value}
    {R : Result → Shared → Prop} {name qual : Str} {params : Arguments} {body : List Stmt} {scope : Scope} {dV kV doc pm cdv ct oc : Value} {an od : Option Addr} {osl : Array (Option Value)} {f : Addr} {args : Args} {binds : List (Str × Value)}
/-- a helper that catches, entered from the outermost frame, whatever cells that frame has -/
theorem enter_S0 (B : Below A₀ base [] h₀) (F : Fr h₀ L s.heap m) (X₀ : K.In h₀) (N : News h₀ L s.heap news) (T : Top p loose mean mg mb h₀) (hA : A.frames = some [env]) (hf : env.frame = some L) (hke : env.scope.kind = .function)
    (ho : K.lookup f = some ⟨oc, od, .func (fnOf name qual params body scope dV kV doc pm an cdv ct), osl⟩) (hcd : codeIn K cdv qual = true) (hroom : A.depth < recursionLimit)
    (hbind : BindsTo s (fnOf name qual params body scope dV kV doc pm an cdv ct) args binds) (hloc : ∀ y ∈ binds, scope.names.lookup y.1 = some .local)
    (h : ∀ g L' h₁, Fr h₀ L g m → Fr g L' h₁ (fun y => binds.reverse.lookup y) → News g L' h₁ news → Below A base [env] g → K.In g → Top p loose mean mg mb g → KtsDicts ([env].filterMap (·.frame)) g →
      wpAny (model prog w) (A.deeper (envOf qual scope L' f cdv)) (execs body (envOf qual scope L' f cdv))
        (fun fl s' => LeaveS0 ([env].filterMap (·.frame)) h₀ L m g R (match fl with | .ret v => v | _ => .none) s')
        (fun e s' => wpAny (model prog w) (A.deeper (envOf qual scope L' f cdv)) (leaving (envOf qual scope L' f cdv) e) (fun _ s'' => R (.error e) s'') (fun e' s'' => R (.error e') s'') s')
        { s with heap := h₁, toks := s.toks + binds.length })
    (hco : scope.isCoroutine = false) (hgen : scope.isGenerator = false) (hk : scope.kind = .function)
    (hcell : ∀ x ∈ scope.names, x.2 ≠ .cell) : codeAny (model prog w) A (.call (.ref f) args) R s := by
  have X := X₀.keeps F.keep
  have hfs : [env].filterMap (·.frame) = [L] := by simp [hf]
  have nL₀ : h₀.get? L = none := kts_self F
  refine codeAny_call_def (fd := fnOf name qual params body scope dV kV doc pm an cdv ct) (body := body) (binds := binds) hroom (X _ _ ho) rfl (T.nolimit.keeps F.keep) (codeRec_of X hcd) rfl hbind hcell hloc (fun h₁ hns hk₁ => ?_) hco hgen hk
  have nm : ∀ b o, h₀.get? b = some o → b ∉ news.map (·.1) := fun b o e q => by
    obtain ⟨p, hp, rfl⟩ := List.mem_map.mp q
    rw [(N p hp).2.2] at e; cases e
  have st : h₀.StaysIn (hideAll s.heap (news.map (·.1))) := fun b o e => hideAll_get _ (F.keep b o e) (nm b o e)
  obtain ⟨oL, es, ep, hL, hLd, hLk, hLf⟩ := F.ns
  have nL : L ∉ news.map (·.1) := fun q => by
    obtain ⟨p, hp, e⟩ := List.mem_map.mp q
    exact (N p hp).2.1 e
  have hLg := hideAll_get (news.map (·.1)) hL nL
  have B₂ : Below A base [env] (hideAll s.heap (news.map (·.1))) :=
    ⟨hA, fun b o e => st b o (B.stays b o e), ⟨by rw [hke]; decide, ⟨L, oL, hf, fresh_of_stays B.stays nL₀, hLg, fun vs e => by rw [hLd] at e; cases e⟩, trivial⟩⟩
  refine wpAny_mono (h _ s.heap.objs.size h₁ ⟨⟨oL, es, ep, hLg, hLd, hLk, hLf⟩, st, F.above⟩ ⟨hns, fun b o e => hk₁ b o (of_hideAll _ e), Nat.le_of_eq (hideAll_size _ _)⟩
    (fun p hp => ⟨hk₁ _ _ (N p hp).1, Nat.ne_of_lt (Heap.lt_size (N p hp).1), hideAll_none _ (List.mem_map_of_mem hp)⟩) B₂ (X₀.keeps st) (T.keeps st) (fun b hb => by
      rw [hfs] at hb
      rw [List.mem_singleton.mp hb]
      exact ⟨oL, es, ep, hLg, hLd⟩)) (fun fl s' hl => ?_) fun _ _ y => y
  obtain ⟨g', L', m', news', T', F', N', k⟩ := hl
  rw [hfs] at T'
  obtain ⟨sl, hs⟩ := T'.up hLg
  refine k ⟨⟨_, es, ep, F'.keep _ _ hs, hLd, hLk, hLf⟩, fun b o e => F'.keep b o (T'.other b o (st b o e) (fun q => by
    rw [List.mem_singleton.mp q, nL₀] at e; cases e)), F.above⟩ fun p hp => ⟨(N' p hp).1, fun q => ?_, ?_⟩
  · have := (N' p hp).2.2; rw [q, hs] at this; cases this
  · cases q : h₀.get? p.1 with
    | none => rfl
    | some o =>
      obtain ⟨sl', hs'⟩ := T'.up (st _ _ q)
      have := (N' p hp).2.2
      rw [hs'] at this
      cases this
end
end Mine
end
section
open PySem PySem.W PySem.Calls PyProof.Rows
set_option maxRecDepth 100000
set_option linter.unusedVariables false
namespace Mine
theorem lt_ne4 {d c : Addr} {l : List (Addr × Obj)} (h : ∀ p ∈ l, p.1 < d) (k : @LE.le Nat _ d c) : ∀ p ∈ l, p.1 ≠ c := fun p hp => Nat.ne_of_lt (Nat.lt_of_lt_of_le (h p hp) k)
local macro_rules | `(tactic| k_all) => `(tactic| exact lt_ne4 (by assumption) (by omega))
local macro_rules | `(tactic| k_all) => `(tactic| exact allLt_ne (by assumption) (by omega))
local macro_rules | `(tactic| k_room) => `(tactic| ktr_room)
local macro_rules | `(tactic| k_units) => `(tactic| ktr_units)
local macro_rules | `(tactic| walk_at "call ref") => `(tactic| ((with_reducible show wpAny _ _ (call (Value.ref 59) _) _ _ _); k_dflt (refine' call_exc PySem.F.excBase_Exception ?k1 ?k2 ?k3 ?k4 ?k5 ?k6 ?k7 ?_; (case k1 => k_asm); (case k2 => k_asm); (case k3 => k_asm); (case k4 => kernel_rfl); (case k5 => k_is); (case k6 => k_is); (case k7 => size_fits); intro x' d' h' F' N' l1 l2; (try k_lt l1); (try k_lt2 l2); (try k_sweep); k_enter)))
local macro_rules | `(tactic| walk_at "getMethod type:Exception") => `(tactic| (k_here; refine' method_type ?F ?X ?m (by decide +kernel) ?e ?h ?_; (case F => k_asm); (case X => k_asm); (case m => exact meta_Exception); (case e => k_dflt k_is); (case h => k_handed)))
local macro_rules | `(tactic| walk_at "call builtin:Exception.__init__") => `(tactic| (k_here; k_dflt (refine' exc_init (C := 59) (newId := "Exception.__new__") ?k1 ?k2 ?k3 ?k4 ?k5 ?k6 ?_; (case k1 => k_asm); (case k2 => k_asm); (case k3 => k_asm); (case k4 => k_updF); (case k5 => kernel_rfl); (case k6 => size_fits); intro t' h' F' N' l1; (try k_lt l1); (try dsimp only at N'); (try k_sweep))))
local macro_rules | `(tactic| walk_at "setAttr ref") => `(tactic| (k_here; k_dflt (first
  | (refine' set_exc0 (C := 59) ?k1 ?k2 ?k3 ?k4 ?k5 ?k6 ?k7 ?_; (case k1 => k_asm); (case k2 => k_asm); (case k3 => k_asm); (case k4 => k_updF); (case k5 => k_is); (case k6 => kernel_rfl); (case k7 => k_is); intro d' h' tk' tk'' F' N' l1; (try k_lt l1); (try dsimp only at N'); (try k_sweep))
  | (refine' set_exc1 (C := 59) ?k1 ?k2 ?k3 ?kx ?k4 ?k5 ?k6 ?k7 ?k8 ?k9 ?kz ?_; (case k1 => k_asm); (case k2 => k_asm); (case k3 => k_asm); (case kx => k_mem); (case k4 => k_updF); (case k5 => k_is); (case k6 => kernel_rfl); (case k7 => k_is); (case k8 => rfl); (case k9 => intro _; rfl); (case kz => intro _; exact Nat.le_of_ble_eq_true rfl); intro h' tk' tk'' F' N'; (try dsimp only at N'); (try k_sweep)))))

local macro_rules | `(tactic| walk_at "exec Raise some none") => `(tactic| (k_here; (with_reducible show wpAny _ _ (exec (Stmt.Raise (some (Expr.Call (Expr.Name _ _) (_ :: _) [] _)) none _) _) _ _ _); refine raise_ownE (C := 59) (newId := "Exception.__new__") rfl ?_))
local macro_rules | `(tactic| walk_at "RaisableE") => `(tactic| (k_dflt (refine' raisableE ?k1 ?k2 ?k3 ?k4 ?k5 ?_; (case k1 => k_asm); (case k2 => k_asm); (case k3 => k_asm); (case k4 => k_mem); (case k5 => kernel_rfl))))
local macro_rules | `(tactic| walk_at "InitBack error") => `(tactic| (k_dflt (unfold InitBack; dsimp only)))
local macro_rules | `(tactic| walk_at "leaving ref") => `(tactic| k_extra "leave")

def Claim0 (w : World) (k : Nat) (f : Addr) (vs : List Value) (news : List (Addr × Obj)) (Ret : Value → List (Addr × Obj) → Prop) : Prop :=
  ∀ (mean : ExcName → Option Value) (mg mb : Str → Option Value) (dp un : Nat) (gd : Option (List Code)) (cn : Str) (cs : Scope) (a : Addr) (ccd : Value) (cl : List (Str × Addr)) (A₀ : Around) (h₀ : Heap) (L : Addr) (m : Str → Option Value) (s : Shared) (Q E : Value → Shared → Prop),
    Below A₀ h₀ [] h₀ → Fr h₀ L s.heap m → (hd.heap_39 w.params).In h₀ → News h₀ L s.heap news → Top hd.view_39 (looseW hd.view_39 [Str.ofString "SettingError"]) mean mg mb h₀ → cs.kind = .function →
    dp + k < recursionLimit → un + 8 * k < cLine →
    (∀ r news' h' tk', Ret r news' → Fr h₀ L h' m → News h₀ L h' news' → Q r { s with heap := h', toks := tk' }) →
      wpAny (model PySem.Challenge.rw_pc0359_01.row.prog w) (ktrTop dp un gd cn cs L a ccd cl []) (call (.ref f) vs) Q E s

set_option maxHeartbeats 8000000 in
theorem refused_ok (w : World) (low high most : Int) (t1 t2 t3 : Tok) (rest : List (Addr × Obj)) (hc : low < 0 ∨ (0 ≤ low ∧ high ≤ low) ∨ (0 ≤ low ∧ low < high ∧ most < 0) ∨ (0 ≤ low ∧ low < high ∧ 0 ≤ most ∧ 10000 < most)) :
    Claim0 w 9 221 [.int low t1, .int high t2, .int most t3] rest (fun r news' => r = .bool true ∧ news' = rest) := by
  unfold Claim0
  k_with_none
  w_top off
  k_fill
  intro mean mg mb dp un gd cn cs a ccd cl A₀ h₀ L m s Q E B F X N T hk hd hu hret
  refine wpAny_call ?_
  k_dflt (refine' enter_S0 ?k1 ?k2 ?k3 ?k4 ?k5 ?kA ?kF ?cK ?k6 ?k7 ?k8 ?k9 ?kB ?_ ?c2 ?c3 ?c4 ?c5; (case kA => exact rfl); (case k2 => k_asm); (case kF => exact rfl); (case k1 => k_asm); (case k3 => k_asm); (case k4 => k_asm); (case k5 => k_asm); (case k6 => k_is); (case k7 => k_is); (case k8 => ktr_room); (case k9 => exact BindsTo.of_eq rfl); (case kB => exact locs rfl); (case cK => assumption); (case c2 => exact rfl); (case c3 => exact rfl); (case c4 => exact rfl); (case c5 => decide); intro g' L' h' FG' F' N' B' X' T' D'; (try dsimp only); (try k_lift B'); (try k_fold))
  k_with "leave" => k_dflt (
    refine leave_ownS (news' := rest) (by assumption) (by k_asm) (by k_asm) (by k_mem) (by k_mem) (by intro p hp; (repeat (first | exact hp | apply List.mem_cons_of_mem)); done) (by k_all) (by k_all) ?_; intro h' S' U'; (try dsimp only at S' U' ⊢))
  rcases hc with h1 | ⟨h1, h2⟩ | ⟨h1, h2, h3⟩ | ⟨h1, h2, h3, h4⟩
  all_goals k_steps
  all_goals (try dsimp only)
  all_goals (exact hret _ _ _ _ ⟨rfl, rfl⟩ (by k_asm) (by k_asm))

theorem claim0_use {w : World} {k : Nat} {f : Addr} {vs : List Value} {news : List (Addr × Obj)} {Ret : Value → List (Addr × Obj) → Prop} (C : Claim0 w k f vs news Ret)
    {mean : ExcName → Option Value} {mg mb : Str → Option Value} {dp un : Nat} {gd : Option (List Code)} {cn : Str} {cs : Scope} {a : Addr} {ccd : Value} {cl : List (Str × Addr)} {A₀ : Around} {h₀ : Heap} {L : Addr} {m : Str → Option Value} {s : Shared} {Q E : Value → Shared → Prop}
    (B : Below A₀ h₀ [] h₀) (F : Fr h₀ L s.heap m) (X : (hd.heap_39 w.params).In h₀) (N : News h₀ L s.heap news) (T : Top hd.view_39 (looseW hd.view_39 [Str.ofString "SettingError"]) mean mg mb h₀) (hk : cs.kind = .function)
    (hd : dp + k < recursionLimit) (hu : un + 8 * k < cLine)
    (ret : ∀ r news' h' tk', Ret r news' → Fr h₀ L h' m → News h₀ L h' news' → Q r { s with heap := h', toks := tk' }) :
    wpAny (model PySem.Challenge.rw_pc0359_01.row.prog w) (ktrTop dp un gd cn cs L a ccd cl []) (call (.ref f) vs) Q E s :=
  C mean mg mb dp un gd cn cs a ccd cl A₀ h₀ L m s Q E B F X N T hk hd hu ret
end Mine
end
section
open PySem PySem.W PySem.Calls PyProof.Rows
set_option maxRecDepth 100000
set_option linter.unusedVariables false
namespace Mine
theorem curve_c {w : World} {c dc la : Addr} {k1 k2 k3 t1 t2 t3 u1 u2 u3 : Tok} {low high most : Int} {vs : List Value} {ns : List Int} {n : Nat} {news : List (Addr × Obj)}
    (hc : (c, instObj 120 dc) ∈ news) (hdc : (dc, curveObj w k1 k2 k3 low t1 high t2 most t3) ∈ news) (hla : (la, listOf vs.toArray n) ∈ news) (hn1 : @Ne Nat c dc) (hn2 : @Ne Nat c la) (hn3 : @Ne Nat dc la)
    (h0 : 0 ≤ low) (h1 : low < high) (h2 : high < 1000) (h3 : 0 ≤ most) (h4 : most < 1000) (hi : IntsAre vs ns)
    (hr : ∀ a ∈ ns, 0 ≤ a ∧ a < 1000) (hs : ∀ (i j : Nat) (a b : Int), i ≤ j → ns[i]? = some a → ns[j]? = some b → a ≤ b) :
    Claim w 12 204 [.ref c, .int low u1, .int high u2, .int most u3, .ref la] news (fun r news' => r = .bool true ∧ news' = news) := by
  refine claim_conv fun h₀ L h N => ?_
  obtain ⟨rest, ho, m1, m2⟩ := ro_only N [(c, instObj 120 dc), (dc, curveObj w k1 k2 k3 low t1 high t2 most t3), (la, listOf vs.toArray n)]
    (List.forall_mem_cons.mpr ⟨hc, List.forall_mem_cons.mpr ⟨hdc, List.forall_mem_cons.mpr ⟨hla, List.forall_mem_nil _⟩⟩⟩)
  refine ⟨_, _, curve_ok w c dc la k1 k2 k3 t1 t2 t3 u1 u2 u3 low high most vs ns n rest ho hn1 hn2 hn3 h0 h1 h2 h3 h4 hi hr hs, m1, ?_⟩
  rintro r n1 ⟨rfl, rfl⟩
  exact ⟨_, ⟨rfl, rfl⟩, m2⟩
theorem sorted_ix {ns : List Int} (o : List.Pairwise (fun x y => x ≤ y) ns) : ∀ (i j : Nat) (a b : Int), i ≤ j → ns[i]? = some a → ns[j]? = some b → a ≤ b := by
  intro i j a b hij ha hb
  obtain ⟨hi, rfl⟩ := List.getElem?_eq_some_iff.mp ha
  obtain ⟨hj, rfl⟩ := List.getElem?_eq_some_iff.mp hb
  rcases Nat.lt_or_eq_of_le hij with h | rfl
  · exact List.pairwise_iff_getElem.mp o i j hi hj h
  · exact Int.le_refl _
theorem levels_bd {ns : List Int} {low d : Int} (p : ns.Perm [0, low, low + 1, (low + (low + 1 + d)).fdiv 2, low + 1 + d - 1, low + 1 + d, low + 1 + d + 5]) (h0 : 0 ≤ low) (h1 : low < 20) (h2 : 0 ≤ d) (h3 : d < 20) : ∀ a ∈ ns, 0 ≤ a ∧ a < 1000 := by
  intro a ha
  have e : (low + (low + 1 + d)).fdiv 2 = (low + (low + 1 + d)) / 2 := Int.fdiv_eq_ediv_of_nonneg _ (by decide)
  have := p.mem_iff.mp ha
  rw [e] at this
  simp only [List.mem_cons, List.not_mem_nil, or_false] at this
  omega
end Mine
end
section
open PySem PySem.W PySem.Calls PyProof.Rows
set_option maxRecDepth 100000
set_option linter.unusedVariables false
namespace Mine
theorem queue_c {w : World} {sa c dc ba : Addr} {b m : Int} {k1 k2 k3 t1 t2 t3 u1 u2 u3 u4 u5 u6 u7 : Tok} {shift low high most room : Int} {n1 n2 : Nat} {news : List (Addr × Obj)} {g : Obj → List (Addr × Obj)}
    (U : UpdF sa (listOf #[.int b u3, .int m u4] n1) news g) (hc : (c, instObj 120 dc) ∈ news) (hdc : (dc, curveObj w k1 k2 k3 low t1 high t2 most t3) ∈ news)
    (hba : (ba, ({ cls := .type "tuple", data := .seq #[.int low u5, .int high u6, .int most u7] n2 } : Obj)) ∈ news)
    (hn1 : @Ne Nat c dc) (hn2 : @Ne Nat c ba) (hn3 : @Ne Nat dc ba) (hn4 : @Ne Nat c sa) (hn5 : @Ne Nat dc sa) (hn6 : @Ne Nat ba sa)
    (hb : 0 ≤ b) (hm : 0 ≤ m) (hm' : m < 2147483647) (hs0 : 0 ≤ shift) (hs1 : shift < 4)
    (h0 : 0 ≤ low) (h1 : low < high) (h2 : high < 1000) (h3 : 0 ≤ most) (h4 : most < 1000) (hr0 : 20 ≤ room) (hr1 : room < 50) :
    Claim w 12 214 [.ref sa, .int shift u1, .ref c, .ref ba, .int room u2] news
      (fun r news' => r = .bool true ∧ ∃ (b m : Int) (u3 u4 : Tok) (n1 : Nat), 0 ≤ b ∧ 0 ≤ m ∧ m < 2147483647 ∧ news' = g (listOf #[.int b u3, .int m u4] n1)) := by
  refine claim_conv fun h₀ L h N => ?_
  obtain ⟨rest, ho, m1, m2⟩ := upd_ro U N [(c, instObj 120 dc), (dc, curveObj w k1 k2 k3 low t1 high t2 most t3), (ba, { cls := .type "tuple", data := .seq #[.int low u5, .int high u6, .int most u7] n2 })]
    (List.forall_mem_cons.mpr ⟨hc, List.forall_mem_cons.mpr ⟨hdc, List.forall_mem_cons.mpr ⟨hba, List.forall_mem_nil _⟩⟩⟩)
    (List.forall_mem_cons.mpr ⟨hn4, List.forall_mem_cons.mpr ⟨hn5, List.forall_mem_cons.mpr ⟨hn6, List.forall_mem_nil _⟩⟩⟩)
  refine ⟨_, _, queue_ok w sa c dc ba b m k1 k2 k3 t1 t2 t3 u1 u2 u3 u4 u5 u6 u7 shift low high most room n1 n2 rest ?_ hn1 hn2 hn3 (Ne.symm hn4) (Ne.symm hn5) (Ne.symm hn6) hb hm hm' hs0 hs1 h0 h1 h2 h3 h4 hr0 hr1, ?_, ?_⟩
  · intro p hp x hx
    refine ho p hp x ?_
    simp only [List.map_cons, List.map_nil, List.cons_append, List.nil_append, List.mem_cons, List.not_mem_nil, or_false] at hx ⊢
    rcases hx with h | h | h | h <;> simp [h]
  · intro p hp
    refine m1 p ?_
    simp only [List.cons_append, List.nil_append, List.mem_cons] at hp ⊢
    rcases hp with h | h | h | h | h <;> simp [h]
  · rintro r nn ⟨hr, b', m', u3', u4', n1', e1, e2, e3, rfl⟩
    refine ⟨_, ⟨hr, b', m', u3', u4', n1', e1, e2, e3, rfl⟩, ?_⟩
    intro p hp
    have := m2 _ p hp
    simp only [List.cons_append, List.nil_append, List.mem_cons] at this ⊢
    rcases this with h | h | h | h | h <;> simp [h]
end Mine
end
section
open PySem PySem.W PySem.Calls PyProof.Rows
set_option maxRecDepth 100000
set_option linter.unusedVariables false
namespace Mine
def lawDef : List Stmt × Scope := match PySem.Challenge.pw_pc0359_01.main.body.reverse with
  | .FunctionDef _ _ body _ _ _ scope _ _ _ :: _ => (body, scope)
  | _ => ([], { kind := .function, names := [], isGenerator := false, isCoroutine := false })
def lawLoop : List Stmt := match lawDef.1 with
  | [_, _, _, .For _ _ body _ _, _] => body
  | _ => []
def lawScope : Scope := lawDef.2
theorem lt_ne5 {d c : Addr} {l : List (Addr × Obj)} (h : ∀ p ∈ l, p.1 < d) (k : @LE.le Nat _ d c) : ∀ p ∈ l, p.1 ≠ c := fun p hp => Nat.ne_of_lt (Nat.lt_of_lt_of_le (h p hp) k)
local macro_rules | `(tactic| k_all) => `(tactic| exact lt_ne5 (by assumption) (by omega))
local macro_rules | `(tactic| k_all) => `(tactic| exact allLt_ne (by assumption) (by omega))
local macro_rules | `(tactic| k_room) => `(tactic| ktr_room)
local macro_rules | `(tactic| k_units) => `(tactic| ktr_units)
theorem most_of {v : Int} (h : v ∈ [0, 1, 30, 99]) : 0 ≤ v ∧ v < 100 := by
  simp only [List.mem_cons, List.not_mem_nil, or_false] at h
  omega
local macro_rules | `(tactic| walk_at "call ref") => `(tactic| ((with_reducible show wpAny _ _ (call (Value.ref 180) _) _ _ _); k_extra "pool"))
local macro_rules | `(tactic| walk_at "call ref") => `(tactic| ((with_reducible show wpAny _ _ (call (Value.ref 187) _) _ _ _); k_extra "take"))
local macro_rules | `(tactic| walk_at "call ref") => `(tactic| ((with_reducible show wpAny _ _ (call (Value.ref 194) _) _ _ _); k_extra "one"))
local macro_rules | `(tactic| walk_at "call ref") => `(tactic| ((with_reducible show wpAny _ _ (call (Value.ref 204) _) _ _ _); k_extra "curve"))
local macro_rules | `(tactic| walk_at "call ref") => `(tactic| ((with_reducible show wpAny _ _ (call (Value.ref 209) _) _ _ _); k_extra "comes"))
local macro_rules | `(tactic| walk_at "call ref") => `(tactic| ((with_reducible show wpAny _ _ (call (Value.ref 214) _) _ _ _); k_extra "queue"))
set_option maxHeartbeats 40000000 in
theorem turn_ok (w : World) {mean : ExcName → Option Value} {mg mb : Str → Option Value} {dp un : Nat} {gd : Option (List Code)} {cn : Str} {a : Addr} {ccd : Value} {cl : List (Str × Addr)} {outer : List Env} {A₀ : Around} {base h₀ : Heap} {L : Addr} {s : Shared} {R : Flow → Shared → Prop} {E : Value → Shared → Prop}
    (scope : Scope) (hsc : scope = lawScope) (body : List Stmt) (hbd : body = lawLoop) {l : Addr} {vs : List Value} {ns : List Int} {k : Int} {t : Tok} {u : Str → Option Value} {own : List (Addr × Obj)} {h : Heap} {tk : Nat}
    (B : Below A₀ base outer h₀) (F : Fr h₀ L h (fun y => if y = Str.ofString "k" then some (.int k t) else scM l u y)) (X : (hd.heap_39 w.params).In h₀) (N : News h₀ L h own) (T : Top hd.view_39 (looseW hd.view_39 [Str.ofString "SettingError"]) mean mg mb h₀)
    (hd : dp + 20 < recursionLimit) (hu : un + 160 < cLine)
    (hl : base.IsList l vs.toArray) (hi : IntsAre vs ns) (hlen : ns.length < 2 ^ 62) (hlay : PyData.layable0 (.list (ns.map .int)) = true) (hk0 : 0 ≤ k) (hk1 : k < 2)
    (hR : ∀ (h' : Heap) (tk' : Nat) (m' : Str → Option Value) (news' : List (Addr × Obj)), News h₀ L h' news' → (∀ p ∈ own, p ∈ news') → m' (Str.ofString "script") = some (.ref l) → Fr h₀ L h' m' → R .next { s with heap := h', toks := tk' }) :
    wpAny (model PySem.Challenge.rw_pc0359_01.row.prog w) (ktrTop dp un gd cn scope L a ccd cl outer) (execs body (envX cn scope L a ccd cl)) R E { s with heap := h, toks := tk } := by
  conv at hsc => rhs; whnf
  conv at hbd => rhs; whnf
  subst hsc hbd
  k_with_none
  w_top off
  revert X; k_fill; intro X
  k_with "pool" => k_dflt (
    refine pool_use (by k_asm) (by k_asm) (by k_asm) (by k_asm) (by k_asm) (by first | exact rfl | assumption) (by assumption) (by assumption) (by omega) (by assumption) (by omega) (by omega) (by ktr_room) (by ktr_units) ?_
    intro sa9 b9 m9 t91 t92 n9 h9 tk9 hb9 hm91 hm92 l9 F9 N9
    (try k_lt l9)
    (try dsimp only at N9)
    (try dsimp only)
    (try k_fold)
    skip)
  k_with "take" => k_dflt (
    refine' claim_use (take_c ?kU ?hb ?hm ?hm' ?ht ?ht') ?k1 ?k2 ?k3 ?k4 ?k5 ?kK ?kd ?ku ?_
    (case k1 => k_asm)
    (case k2 => k_asm)
    (case k3 => k_asm)
    (case k5 => k_asm)
    (case k4 => k_asm)
    (case kU => k_updF)
    (case hb => assumption)
    (case hm => assumption)
    (case hm' => assumption)
    (case ht => decide)
    (case ht' => decide)
    (case kK => first | exact rfl | assumption)
    (case kd => ktr_room)
    (case ku => ktr_units)
    intro r9 nw9 h9 tk9 hr9 F9 N9
    unfold takeRet at hr9
    obtain ⟨d9, b9, m9, t91, t92, t93, n9, e91, hd91, hd92, hb9, hm91, hm92, e92⟩ := hr9
    subst e91 e92
    (try dsimp only at N9)
    (try dsimp only)
    (try k_fold)
    skip)
  k_with "one" => k_dflt (
    refine' claim_use (one_m ?kU ?kt ?kn ?ki ?hb ?hm ?hm' ?ht ?ht') ?k1 ?k2 ?k3 ?k4 ?k5 ?kK ?kd ?ku ?_
    (case k1 => k_asm)
    (case k2 => k_asm)
    (case k3 => k_asm)
    (case k5 => k_asm)
    (case k4 => k_asm)
    (case kU => k_updF)
    (case kt => k_mem)
    (case kn => k_ne)
    (case ki => l_ints)
    (case hb => assumption)
    (case hm => assumption)
    (case hm' => assumption)
    (case ht => exact Nat.le_of_ble_eq_true rfl)
    (case ht' => exact Nat.le_of_ble_eq_true rfl)
    (case kK => first | exact rfl | assumption)
    (case kd => ktr_room)
    (case ku => ktr_units)
    intro r9 nw9 h9 tk9 hr9 F9 N9
    unfold pickRetM at hr9
    obtain ⟨v9, b9, m9, t91, t92, t93, n9, e91, hv9, hb9, hm91, hm92, e92⟩ := hr9
    subst e91 e92
    have hv8 := most_of hv9
    clear hv9
    (try dsimp only at N9)
    (try dsimp only)
    (try k_fold)
    skip)
  k_with "curve" => k_dflt (
    (try (rename (_ ∨ _) ∧ _ => hx; clear hx))
    refine' claim_use (curve_c ?hc ?hdc ?hla ?hn1 ?hn2 ?hn3 ?h0 ?h1 ?h2 ?h3 ?h4 ?hi ?hr ?hs) ?k1 ?k2 ?k3 ?k4 ?k5 ?kK ?kd ?ku ?_
    (case k1 => k_asm)
    (case k2 => k_asm)
    (case k3 => k_asm)
    (case k5 => k_asm)
    (case k4 => k_asm)
    (case hc => k_mem)
    (case hdc => k_mem)
    (case hla => k_mem)
    (case hn1 => k_ne)
    (case hn2 => k_ne)
    (case hn3 => k_ne)
    (case h0 => omega)
    (case h1 => omega)
    (case h2 => omega)
    (case h3 => omega)
    (case h4 => omega)
    (case hi => assumption)
    (case hr => exact levels_bd (by assumption) (by omega) (by omega) (by omega) (by omega))
    (case hs => exact sorted_ix (by assumption))
    (case kK => first | exact rfl | assumption)
    (case kd => ktr_room)
    (case ku => ktr_units)
    intro r9 n9 h9 tk9 hr9 F9 N9
    obtain ⟨e91, e92⟩ := hr9
    subst e91 e92
    (try dsimp only at N9)
    (try dsimp only)
    (try k_fold)
    skip)
  k_with "comes" => k_dflt (
    refine' claim_use (comes_ok _ _ _ _ _ _ _ _ ?h0 ?h1 ?h2 ?h3 ?h4 ?h5) ?k1 ?k2 ?k3 ?k4 ?k5 ?kK ?kd ?ku ?_
    (case k1 => k_asm)
    (case k2 => k_asm)
    (case k3 => k_asm)
    (case k5 => k_asm)
    (case k4 => k_asm)
    (case h0 => omega)
    (case h1 => omega)
    (case h2 => omega)
    (case h3 => omega)
    (case h4 => omega)
    (case h5 => omega)
    (case kK => first | exact rfl | assumption)
    (case kd => ktr_room)
    (case ku => ktr_units)
    intro r9 n9 h9 tk9 hr9 F9 N9
    obtain ⟨e91, e92⟩ := hr9
    subst e91 e92
    (try dsimp only at N9)
    (try dsimp only)
    (try k_fold)
    skip)
  k_with "queue" => k_dflt (
    refine' claim_use (queue_c ?kU ?hc ?hdc ?hba ?hn1 ?hn2 ?hn3 ?hn4 ?hn5 ?hn6 ?hb ?hm ?hm' ?hs0 ?hs1 ?h0 ?h1 ?h2 ?h3 ?h4 ?h5 ?h6) ?k1 ?k2 ?k3 ?k4 ?k5 ?kK ?kd ?ku ?_
    (case k1 => k_asm)
    (case k2 => k_asm)
    (case k3 => k_asm)
    (case k5 => k_asm)
    (case k4 => k_asm)
    (case kU => k_updF)
    (case hc => k_mem)
    (case hdc => k_mem)
    (case hba => k_mem)
    (case hn1 => k_ne)
    (case hn2 => k_ne)
    (case hn3 => k_ne)
    (case hn4 => k_ne)
    (case hn5 => k_ne)
    (case hn6 => k_ne)
    (case hb => assumption)
    (case hm => assumption)
    (case hm' => assumption)
    (case hs0 => omega)
    (case hs1 => omega)
    (case h0 => omega)
    (case h1 => omega)
    (case h2 => omega)
    (case h3 => omega)
    (case h4 => omega)
    (case h5 => omega)
    (case h6 => omega)
    (case kK => first | exact rfl | assumption)
    (case kd => ktr_room)
    (case ku => ktr_units)
    intro r9 n9 h9 tk9 hr9 F9 N9
    obtain ⟨e91, b9, m9, t91, t92, n19, hb9, hm91, hm92, e92⟩ := hr9
    subst e91 e92
    (try dsimp only at N9)
    (try dsimp only)
    (try k_fold)
    skip)
  k_steps
  all_goals (try dsimp only)
  all_goals (refine hR _ _ _ _ (by k_asm) (by (intro p hp; (repeat (first | exact hp | apply List.mem_cons_of_mem)); done)) ?_ (by k_asm))
  all_goals rfl
end Mine
end
section
open PySem PySem.W PySem.Calls PyProof.Rows
set_option maxRecDepth 100000
set_option linter.unusedVariables false
namespace Mine
local macro_rules | `(tactic| walk_at "call ref") => `(tactic| ((with_reducible show wpAny _ _ (call (Value.ref 221) _) _ _ _); k_extra "refused"))
local macro_rules | `(tactic| walk_at "exec For Name Call cons nil") => `(tactic| (k_here; (rename Fr _ _ _ _ => lF'); (with_unfolding_all refine' For_invVF lF' ?k1 ?k2 ?_; (case k1 => exact rfl); (case k2 => exact rfl); k_whole)))
local macro_rules | `(tactic| walk_at "pyIter ref") => `(tactic| ((with_reducible show wpAny _ _ (pyIter (Value.ref _)) (fun it s₂ => LoopAtV _ _ _ _ _ _ _ _ _ it s₂) _ _); k_extra "iter"))
set_option maxHeartbeats 40000000 in
theorem law_ok : PySem.Challenge.rw_pc0359_01.Holds := hd (by
  k_with_none
  w_top off
  k_go0
  all_goals (try k_fold)
  k_with "refused" => k_dflt (
    refine' claim0_use (refused_ok _ _ _ _ _ _ _ _ ?hc) ?k1 ?k2 ?k3 ?k4 ?k5 ?kK ?kd ?ku ?_
    (case k1 => k_asm)
    (case k2 => k_asm)
    (case k3 => k_asm)
    (case k5 => k_asm)
    (case k4 => k_asm)
    (case hc => omega)
    (case kK => first | exact rfl | assumption)
    (case kd => ktr_room)
    (case ku => ktr_units)
    intro r9 n9 h9 tk9 hr9 F9 N9
    obtain ⟨e91, e92⟩ := hr9
    subst e91 e92
    (try dsimp only at N9)
    (try dsimp only)
    (try k_fold)
    skip)
  k_with "iter" => k_dflt (
    refine law_loop (by rfl) (by assumption) (by (split <;> (try split) <;> omega)) (by (split <;> (try split) <;> omega)) (by k_asm) (by k_asm) (by rfl) ?_ ?_
    focus
      intro k t h tk own u R hk0 hk1 F1 N1 hR
      refine turn_ok _ _ rfl _ rfl (by k_asm) F1 (by k_asm) N1 (by k_asm) (by ktr_room) (by ktr_units) (by assumption) (by assumption) (by omega) (by assumption) hk0 hk1 hR
    intro h tk u F1 N1
    (try dsimp only at F1 N1))
  k_steps)
end Mine
end
theorem PySem.Challenge.cw_pc0359_01_holds : PySem.Challenge.rw_pc0359_01.Holds := by
  exact Mine.law_ok
