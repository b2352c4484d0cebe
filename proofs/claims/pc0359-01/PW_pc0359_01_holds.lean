import PyProof.Rows.All
import Wide.All
import OpenK.AllK
import Wide.FinOn
import Lean
import PySem.Challenge.RW_pc0359_01
set_option Elab.async false
set_option compiler.extract_closed false
set_option maxHeartbeats 1000000
section
open PySem PySem.W PyProof.Rows
namespace Mine
set_option maxRecDepth 100000 in
set_option maxHeartbeats 8000000 in
open_top hd for PySem.Challenge.rw_pc0359_01
end Mine
end
local macro_rules | `(tactic| omega) => `(tactic| k_extra "om")
theorem Mine.om_on : True := by
  k_with_none
  w_top off
  k_with "om" => (first | lia | omega (config := {}))
  trivial
set_option genInjectivity false
set_option genSizeOfSpec false
section
open PySem PySem.W PySem.Calls PyProof.Rows
set_option maxRecDepth 100000
namespace Mine

/-- what a call of the text's own does to the ledger -/
noncomputable def Claim (w : World) (k : Nat) (f : Addr) (vs : List Value) (news : List (Addr × Obj)) (Ret : Value → List (Addr × Obj) → Prop) : Prop :=
  ∀ (mean : ExcName → Option Value) (mg mb : Str → Option Value) (dp un : Nat) (gd : Option (List Code)) (cn : Str) (cs : Scope) (a : Addr) (ccd : Value) (cl : List (Str × Addr)) (outer : List Env) (A₀ : Around) (base h₀ : Heap) (L : Addr) (m : Str → Option Value) (s : Shared) (Q E : Value → Shared → Prop),
    Below A₀ base outer h₀ → Fr h₀ L s.heap m → (hd.heap_39 w.params).In h₀ → News h₀ L s.heap news → Top hd.view_39 (looseW hd.view_39 [Str.ofString "SettingError"]) mean mg mb h₀ → cs.kind = .function →
    dp + k < recursionLimit → un + 8 * k < cLine →
    (∀ r news' h' tk', Ret r news' → Fr h₀ L h' m → News h₀ L h' news' → Q r { s with heap := h', toks := tk' }) →
      wpAny (model PySem.Challenge.rw_pc0359_01.row.prog w) (ktrTop dp un gd cn cs L a ccd cl outer) (call (.ref f) vs) Q E s

theorem claim_use {w : World} {k : Nat} {f : Addr} {vs : List Value} {news : List (Addr × Obj)} {Ret : Value → List (Addr × Obj) → Prop} (C : Claim w k f vs news Ret)
    {mean : ExcName → Option Value} {mg mb : Str → Option Value} {dp un : Nat} {gd : Option (List Code)} {cn : Str} {cs : Scope} {a : Addr} {ccd : Value} {cl : List (Str × Addr)} {outer : List Env} {A₀ : Around} {base h₀ : Heap} {L : Addr} {m : Str → Option Value} {s : Shared} {Q E : Value → Shared → Prop}
    (B : Below A₀ base outer h₀) (F : Fr h₀ L s.heap m) (X : (hd.heap_39 w.params).In h₀) (N : News h₀ L s.heap news) (T : Top hd.view_39 (looseW hd.view_39 [Str.ofString "SettingError"]) mean mg mb h₀) (hk : cs.kind = .function)
    (hd : dp + k < recursionLimit) (hu : un + 8 * k < cLine)
    (ret : ∀ r news' h' tk', Ret r news' → Fr h₀ L h' m → News h₀ L h' news' → Q r { s with heap := h', toks := tk' }) :
    wpAny (model PySem.Challenge.rw_pc0359_01.row.prog w) (ktrTop dp un gd cn cs L a ccd cl outer) (call (.ref f) vs) Q E s :=
  C mean mg mb dp un gd cn cs a ccd cl outer A₀ base h₀ L m s Q E B F X N T hk hd hu ret

theorem compEnd_mono {h₀ : Heap} {L : Addr} {m : Str → Option Value} {s₁ s₂ : Shared} {I C D : Addr} {oI oC oD : Obj} {S : List (Addr × Obj) → Prop} {P P' : Value → List (Addr × Obj) → Prop} {y : Value} (hP : ∀ n, P y n → P' y n)
    (h : LCg.CompEnd h₀ L m s₁ I oI C oC D oD S P y s₂) : LCg.CompEnd h₀ L m s₁ I oI C oC D oD S P' y s₂ :=
  Exists.imp (fun _ => Exists.imp fun _ => Exists.imp fun n => And.imp_right (And.imp_right (And.imp_right (And.imp_right (And.imp_right (hP n)))))) h
end Mine
end
section
open PySem PySem.W PySem.Calls PyProof.Rows
set_option maxRecDepth 100000
namespace Mine
theorem room1 {a k j n : Nat} (h : a + k < n) (e : j ≤ k) : a + j < n := Nat.lt_of_le_of_lt (Nat.add_le_add_left e a) h
theorem room2 {a k i j n : Nat} (h : a + k < n) (e : i + j ≤ k) : a + i + j < n := by rw [Nat.add_assoc]; exact room1 h e
theorem room3 {a k i j l n : Nat} (h : a + k < n) (e : i + j + l ≤ k) : a + i + j + l < n := by rw [Nat.add_assoc a]; exact room2 h e
theorem room0 {a k n : Nat} (h : a + k < n) : a < n := Nat.lt_of_le_of_lt (Nat.le_add_right a k) h
theorem mem_mid {α : Type} {a p : α} (l r : List α) (h : p ∈ a :: (l ++ r)) : p ∈ l ++ a :: r := List.perm_middle.mem_iff.mpr h
theorem mid_mem {α : Type} {a p : α} (l r : List α) (h : p ∈ l ++ a :: r) : p ∈ a :: (l ++ r) := List.perm_middle.mem_iff.mp h
theorem ite_is {α β : Type} [DecidableEq α] {x y : α} {m : α → β} {a : β} (h : m x = a) {r : β} (k : m y = r) : m y = if y = x then a else r := by
  by_cases e : y = x
  · rw [if_pos e, e, h]
  · rw [if_neg e, k]
/-- the first k of the addresses stand apart from all the others -/
noncomputable def Ap : Nat → List Addr → Prop
  | 0, _ => True
  | _ + 1, [] => True
  | k + 1, a :: as => a ∉ as ∧ Ap k as
theorem lt_notin {d : Addr} {news : List (Addr × Obj)} (l : ∀ p ∈ news, p.1 < d) : d ∉ news.map Prod.fst := by
  intro h
  obtain ⟨p, hp, e⟩ := List.mem_map.mp h
  have := l p hp
  rw [e] at this
  exact Nat.lt_irrefl _ this
theorem Ap.push {k : Nat} {as : List Addr} {news : List (Addr × Obj)} {d : Addr} (H : Ap k as) (l : ∀ p ∈ news, p.1 < d) (e : news.map Prod.fst = as) : Ap (k + 1) (d :: as) :=
  ⟨by rw [← e]; exact lt_notin l, H⟩
theorem Ap.push2 {k : Nat} {as : List Addr} {news : List (Addr × Obj)} {d x : Addr} (H : Ap (k + 1) (d :: as)) (l : ∀ p ∈ news, p.1 < d) (e : news.map Prod.fst = as) (h : @LT.lt Nat _ d x) : Ap (k + 2) (x :: d :: as) := by
  refine ⟨fun hm => ?_, H⟩
  rcases List.mem_cons.mp hm with rfl | hm
  · exact Nat.lt_irrefl _ h
  · rw [← e] at hm
    exact lt_notin (fun p hp => Nat.lt_trans (l p hp) h) hm
theorem Ap.pop {k : Nat} {as : List Addr} {a : Addr} (H : Ap (k + 1) (a :: as)) : Ap k as := H.2
theorem Ap.open {as : List (Addr × Obj)} {a : Addr} (h : OwnOff as [a]) : Ap 1 (a :: as.map Prod.fst) := by
  refine ⟨fun hm => ?_, trivial⟩
  obtain ⟨p, hp, e⟩ := List.mem_map.mp hm
  exact h p hp a (List.mem_singleton.mpr rfl) e
theorem upd0 {k : Nat} {d : Addr} {o : Obj} {post : List (Addr × Obj)} (H : Ap (k + 1) (d :: post.map Prod.fst)) : UpdF d o ((d, o) :: post) (fun o' => (d, o') :: post) :=
  .head fun p hp e => H.1 (e ▸ List.mem_map_of_mem hp)
theorem updN {d : Addr} {o : Obj} {post : List (Addr × Obj)} : ∀ (pre : List (Addr × Obj)) {k : Nat}, Ap (k + (pre.length + 1)) (pre.map Prod.fst ++ d :: post.map Prod.fst) → UpdF d o (pre ++ (d, o) :: post) (fun o' => pre ++ (d, o') :: post)
  | [], _, H => upd0 H
  | _ :: r, _, H => .tail (fun e => H.1 (e ▸ List.mem_append_right _ (.head _))) (updN r H.2)
theorem upd1 {k : Nat} {p0 : Addr × Obj} {d : Addr} {o : Obj} {post : List (Addr × Obj)} (H : Ap (k + 2) (p0.1 :: d :: post.map Prod.fst)) : UpdF d o (p0 :: (d, o) :: post) (fun o' => p0 :: (d, o') :: post) :=
  updN [p0] H
theorem upd2 {k : Nat} {p0 p1 : Addr × Obj} {d : Addr} {o : Obj} {post : List (Addr × Obj)} (H : Ap (k + 3) (p0.1 :: p1.1 :: d :: post.map Prod.fst)) : UpdF d o (p0 :: p1 :: (d, o) :: post) (fun o' => p0 :: p1 :: (d, o') :: post) :=
  updN [p0, p1] H
theorem upd3 {k : Nat} {p0 p1 p2 : Addr × Obj} {d : Addr} {o : Obj} {post : List (Addr × Obj)} (H : Ap (k + 4) (p0.1 :: p1.1 :: p2.1 :: d :: post.map Prod.fst)) : UpdF d o (p0 :: p1 :: p2 :: (d, o) :: post) (fun o' => p0 :: p1 :: p2 :: (d, o') :: post) :=
  updN [p0, p1, p2] H
theorem upd4 {k : Nat} {p0 p1 p2 p3 : Addr × Obj} {d : Addr} {o : Obj} {post : List (Addr × Obj)} (H : Ap (k + 5) (p0.1 :: p1.1 :: p2.1 :: p3.1 :: d :: post.map Prod.fst)) : UpdF d o (p0 :: p1 :: p2 :: p3 :: (d, o) :: post) (fun o' => p0 :: p1 :: p2 :: p3 :: (d, o') :: post) :=
  updN [p0, p1, p2, p3] H
theorem upd5 {k : Nat} {p0 p1 p2 p3 p4 : Addr × Obj} {d : Addr} {o : Obj} {post : List (Addr × Obj)} (H : Ap (k + 6) (p0.1 :: p1.1 :: p2.1 :: p3.1 :: p4.1 :: d :: post.map Prod.fst)) : UpdF d o (p0 :: p1 :: p2 :: p3 :: p4 :: (d, o) :: post) (fun o' => p0 :: p1 :: p2 :: p3 :: p4 :: (d, o') :: post) :=
  updN [p0, p1, p2, p3, p4] H
theorem upd6 {k : Nat} {p0 p1 p2 p3 p4 p5 : Addr × Obj} {d : Addr} {o : Obj} {post : List (Addr × Obj)} (H : Ap (k + 7) (p0.1 :: p1.1 :: p2.1 :: p3.1 :: p4.1 :: p5.1 :: d :: post.map Prod.fst)) : UpdF d o (p0 :: p1 :: p2 :: p3 :: p4 :: p5 :: (d, o) :: post) (fun o' => p0 :: p1 :: p2 :: p3 :: p4 :: p5 :: (d, o') :: post) :=
  updN [p0, p1, p2, p3, p4, p5] H
theorem upd7 {k : Nat} {p0 p1 p2 p3 p4 p5 p6 : Addr × Obj} {d : Addr} {o : Obj} {post : List (Addr × Obj)} (H : Ap (k + 8) (p0.1 :: p1.1 :: p2.1 :: p3.1 :: p4.1 :: p5.1 :: p6.1 :: d :: post.map Prod.fst)) : UpdF d o (p0 :: p1 :: p2 :: p3 :: p4 :: p5 :: p6 :: (d, o) :: post) (fun o' => p0 :: p1 :: p2 :: p3 :: p4 :: p5 :: p6 :: (d, o') :: post) :=
  updN [p0, p1, p2, p3, p4, p5, p6] H
theorem upd8 {k : Nat} {p0 p1 p2 p3 p4 p5 p6 p7 : Addr × Obj} {d : Addr} {o : Obj} {post : List (Addr × Obj)} (H : Ap (k + 9) (p0.1 :: p1.1 :: p2.1 :: p3.1 :: p4.1 :: p5.1 :: p6.1 :: p7.1 :: d :: post.map Prod.fst)) : UpdF d o (p0 :: p1 :: p2 :: p3 :: p4 :: p5 :: p6 :: p7 :: (d, o) :: post) (fun o' => p0 :: p1 :: p2 :: p3 :: p4 :: p5 :: p6 :: p7 :: (d, o') :: post) :=
  updN [p0, p1, p2, p3, p4, p5, p6, p7] H
theorem upd9 {k : Nat} {p0 p1 p2 p3 p4 p5 p6 p7 p8 : Addr × Obj} {d : Addr} {o : Obj} {post : List (Addr × Obj)} (H : Ap (k + 10) (p0.1 :: p1.1 :: p2.1 :: p3.1 :: p4.1 :: p5.1 :: p6.1 :: p7.1 :: p8.1 :: d :: post.map Prod.fst)) : UpdF d o (p0 :: p1 :: p2 :: p3 :: p4 :: p5 :: p6 :: p7 :: p8 :: (d, o) :: post) (fun o' => p0 :: p1 :: p2 :: p3 :: p4 :: p5 :: p6 :: p7 :: p8 :: (d, o') :: post) :=
  updN [p0, p1, p2, p3, p4, p5, p6, p7, p8] H
theorem upd10 {k : Nat} {p0 p1 p2 p3 p4 p5 p6 p7 p8 p9 : Addr × Obj} {d : Addr} {o : Obj} {post : List (Addr × Obj)} (H : Ap (k + 11) (p0.1 :: p1.1 :: p2.1 :: p3.1 :: p4.1 :: p5.1 :: p6.1 :: p7.1 :: p8.1 :: p9.1 :: d :: post.map Prod.fst)) : UpdF d o (p0 :: p1 :: p2 :: p3 :: p4 :: p5 :: p6 :: p7 :: p8 :: p9 :: (d, o) :: post) (fun o' => p0 :: p1 :: p2 :: p3 :: p4 :: p5 :: p6 :: p7 :: p8 :: p9 :: (d, o') :: post) :=
  updN [p0, p1, p2, p3, p4, p5, p6, p7, p8, p9] H
theorem upd11 {k : Nat} {p0 p1 p2 p3 p4 p5 p6 p7 p8 p9 p10 : Addr × Obj} {d : Addr} {o : Obj} {post : List (Addr × Obj)} (H : Ap (k + 12) (p0.1 :: p1.1 :: p2.1 :: p3.1 :: p4.1 :: p5.1 :: p6.1 :: p7.1 :: p8.1 :: p9.1 :: p10.1 :: d :: post.map Prod.fst)) : UpdF d o (p0 :: p1 :: p2 :: p3 :: p4 :: p5 :: p6 :: p7 :: p8 :: p9 :: p10 :: (d, o) :: post) (fun o' => p0 :: p1 :: p2 :: p3 :: p4 :: p5 :: p6 :: p7 :: p8 :: p9 :: p10 :: (d, o') :: post) :=
  updN [p0, p1, p2, p3, p4, p5, p6, p7, p8, p9, p10] H
theorem upd12 {k : Nat} {p0 p1 p2 p3 p4 p5 p6 p7 p8 p9 p10 p11 : Addr × Obj} {d : Addr} {o : Obj} {post : List (Addr × Obj)} (H : Ap (k + 13) (p0.1 :: p1.1 :: p2.1 :: p3.1 :: p4.1 :: p5.1 :: p6.1 :: p7.1 :: p8.1 :: p9.1 :: p10.1 :: p11.1 :: d :: post.map Prod.fst)) : UpdF d o (p0 :: p1 :: p2 :: p3 :: p4 :: p5 :: p6 :: p7 :: p8 :: p9 :: p10 :: p11 :: (d, o) :: post) (fun o' => p0 :: p1 :: p2 :: p3 :: p4 :: p5 :: p6 :: p7 :: p8 :: p9 :: p10 :: p11 :: (d, o') :: post) :=
  updN [p0, p1, p2, p3, p4, p5, p6, p7, p8, p9, p10, p11] H
theorem upd13 {k : Nat} {p0 p1 p2 p3 p4 p5 p6 p7 p8 p9 p10 p11 p12 : Addr × Obj} {d : Addr} {o : Obj} {post : List (Addr × Obj)} (H : Ap (k + 14) (p0.1 :: p1.1 :: p2.1 :: p3.1 :: p4.1 :: p5.1 :: p6.1 :: p7.1 :: p8.1 :: p9.1 :: p10.1 :: p11.1 :: p12.1 :: d :: post.map Prod.fst)) : UpdF d o (p0 :: p1 :: p2 :: p3 :: p4 :: p5 :: p6 :: p7 :: p8 :: p9 :: p10 :: p11 :: p12 :: (d, o) :: post) (fun o' => p0 :: p1 :: p2 :: p3 :: p4 :: p5 :: p6 :: p7 :: p8 :: p9 :: p10 :: p11 :: p12 :: (d, o') :: post) :=
  updN [p0, p1, p2, p3, p4, p5, p6, p7, p8, p9, p10, p11, p12] H
theorem upd14 {k : Nat} {p0 p1 p2 p3 p4 p5 p6 p7 p8 p9 p10 p11 p12 p13 : Addr × Obj} {d : Addr} {o : Obj} {post : List (Addr × Obj)} (H : Ap (k + 15) (p0.1 :: p1.1 :: p2.1 :: p3.1 :: p4.1 :: p5.1 :: p6.1 :: p7.1 :: p8.1 :: p9.1 :: p10.1 :: p11.1 :: p12.1 :: p13.1 :: d :: post.map Prod.fst)) : UpdF d o (p0 :: p1 :: p2 :: p3 :: p4 :: p5 :: p6 :: p7 :: p8 :: p9 :: p10 :: p11 :: p12 :: p13 :: (d, o) :: post) (fun o' => p0 :: p1 :: p2 :: p3 :: p4 :: p5 :: p6 :: p7 :: p8 :: p9 :: p10 :: p11 :: p12 :: p13 :: (d, o') :: post) :=
  updN [p0, p1, p2, p3, p4, p5, p6, p7, p8, p9, p10, p11, p12, p13] H
theorem upd15 {k : Nat} {p0 p1 p2 p3 p4 p5 p6 p7 p8 p9 p10 p11 p12 p13 p14 : Addr × Obj} {d : Addr} {o : Obj} {post : List (Addr × Obj)} (H : Ap (k + 16) (p0.1 :: p1.1 :: p2.1 :: p3.1 :: p4.1 :: p5.1 :: p6.1 :: p7.1 :: p8.1 :: p9.1 :: p10.1 :: p11.1 :: p12.1 :: p13.1 :: p14.1 :: d :: post.map Prod.fst)) : UpdF d o (p0 :: p1 :: p2 :: p3 :: p4 :: p5 :: p6 :: p7 :: p8 :: p9 :: p10 :: p11 :: p12 :: p13 :: p14 :: (d, o) :: post) (fun o' => p0 :: p1 :: p2 :: p3 :: p4 :: p5 :: p6 :: p7 :: p8 :: p9 :: p10 :: p11 :: p12 :: p13 :: p14 :: (d, o') :: post) :=
  updN [p0, p1, p2, p3, p4, p5, p6, p7, p8, p9, p10, p11, p12, p13, p14] H
theorem upe0 {k : Nat} {d : Addr} {o o' : Obj} {post : List (Addr × Obj)} (H : Ap (k + 1) (d :: post.map Prod.fst)) : Upd d o o' ((d, o) :: post) ((d, o') :: post) :=
  .head fun p hp e => H.1 (e ▸ List.mem_map_of_mem hp)
theorem upeN {d : Addr} {o o' : Obj} {post : List (Addr × Obj)} : ∀ (pre : List (Addr × Obj)) {k : Nat}, Ap (k + (pre.length + 1)) (pre.map Prod.fst ++ d :: post.map Prod.fst) → Upd d o o' (pre ++ (d, o) :: post) (pre ++ (d, o') :: post)
  | [], _, H => upe0 H
  | _ :: r, _, H => .tail (fun e => H.1 (e ▸ List.mem_append_right _ (.head _))) (upeN r H.2)
theorem upe1 {k : Nat} {p0 : Addr × Obj} {d : Addr} {o o' : Obj} {post : List (Addr × Obj)} (H : Ap (k + 2) (p0.1 :: d :: post.map Prod.fst)) : Upd d o o' (p0 :: (d, o) :: post) (p0 :: (d, o') :: post) :=
  upeN [p0] H
theorem upe2 {k : Nat} {p0 p1 : Addr × Obj} {d : Addr} {o o' : Obj} {post : List (Addr × Obj)} (H : Ap (k + 3) (p0.1 :: p1.1 :: d :: post.map Prod.fst)) : Upd d o o' (p0 :: p1 :: (d, o) :: post) (p0 :: p1 :: (d, o') :: post) :=
  upeN [p0, p1] H
theorem upe3 {k : Nat} {p0 p1 p2 : Addr × Obj} {d : Addr} {o o' : Obj} {post : List (Addr × Obj)} (H : Ap (k + 4) (p0.1 :: p1.1 :: p2.1 :: d :: post.map Prod.fst)) : Upd d o o' (p0 :: p1 :: p2 :: (d, o) :: post) (p0 :: p1 :: p2 :: (d, o') :: post) :=
  upeN [p0, p1, p2] H
theorem upe4 {k : Nat} {p0 p1 p2 p3 : Addr × Obj} {d : Addr} {o o' : Obj} {post : List (Addr × Obj)} (H : Ap (k + 5) (p0.1 :: p1.1 :: p2.1 :: p3.1 :: d :: post.map Prod.fst)) : Upd d o o' (p0 :: p1 :: p2 :: p3 :: (d, o) :: post) (p0 :: p1 :: p2 :: p3 :: (d, o') :: post) :=
  upeN [p0, p1, p2, p3] H
theorem upe5 {k : Nat} {p0 p1 p2 p3 p4 : Addr × Obj} {d : Addr} {o o' : Obj} {post : List (Addr × Obj)} (H : Ap (k + 6) (p0.1 :: p1.1 :: p2.1 :: p3.1 :: p4.1 :: d :: post.map Prod.fst)) : Upd d o o' (p0 :: p1 :: p2 :: p3 :: p4 :: (d, o) :: post) (p0 :: p1 :: p2 :: p3 :: p4 :: (d, o') :: post) :=
  upeN [p0, p1, p2, p3, p4] H
theorem upe6 {k : Nat} {p0 p1 p2 p3 p4 p5 : Addr × Obj} {d : Addr} {o o' : Obj} {post : List (Addr × Obj)} (H : Ap (k + 7) (p0.1 :: p1.1 :: p2.1 :: p3.1 :: p4.1 :: p5.1 :: d :: post.map Prod.fst)) : Upd d o o' (p0 :: p1 :: p2 :: p3 :: p4 :: p5 :: (d, o) :: post) (p0 :: p1 :: p2 :: p3 :: p4 :: p5 :: (d, o') :: post) :=
  upeN [p0, p1, p2, p3, p4, p5] H
theorem upe7 {k : Nat} {p0 p1 p2 p3 p4 p5 p6 : Addr × Obj} {d : Addr} {o o' : Obj} {post : List (Addr × Obj)} (H : Ap (k + 8) (p0.1 :: p1.1 :: p2.1 :: p3.1 :: p4.1 :: p5.1 :: p6.1 :: d :: post.map Prod.fst)) : Upd d o o' (p0 :: p1 :: p2 :: p3 :: p4 :: p5 :: p6 :: (d, o) :: post) (p0 :: p1 :: p2 :: p3 :: p4 :: p5 :: p6 :: (d, o') :: post) :=
  upeN [p0, p1, p2, p3, p4, p5, p6] H
theorem upe8 {k : Nat} {p0 p1 p2 p3 p4 p5 p6 p7 : Addr × Obj} {d : Addr} {o o' : Obj} {post : List (Addr × Obj)} (H : Ap (k + 9) (p0.1 :: p1.1 :: p2.1 :: p3.1 :: p4.1 :: p5.1 :: p6.1 :: p7.1 :: d :: post.map Prod.fst)) : Upd d o o' (p0 :: p1 :: p2 :: p3 :: p4 :: p5 :: p6 :: p7 :: (d, o) :: post) (p0 :: p1 :: p2 :: p3 :: p4 :: p5 :: p6 :: p7 :: (d, o') :: post) :=
  upeN [p0, p1, p2, p3, p4, p5, p6, p7] H
theorem upe9 {k : Nat} {p0 p1 p2 p3 p4 p5 p6 p7 p8 : Addr × Obj} {d : Addr} {o o' : Obj} {post : List (Addr × Obj)} (H : Ap (k + 10) (p0.1 :: p1.1 :: p2.1 :: p3.1 :: p4.1 :: p5.1 :: p6.1 :: p7.1 :: p8.1 :: d :: post.map Prod.fst)) : Upd d o o' (p0 :: p1 :: p2 :: p3 :: p4 :: p5 :: p6 :: p7 :: p8 :: (d, o) :: post) (p0 :: p1 :: p2 :: p3 :: p4 :: p5 :: p6 :: p7 :: p8 :: (d, o') :: post) :=
  upeN [p0, p1, p2, p3, p4, p5, p6, p7, p8] H
theorem upe10 {k : Nat} {p0 p1 p2 p3 p4 p5 p6 p7 p8 p9 : Addr × Obj} {d : Addr} {o o' : Obj} {post : List (Addr × Obj)} (H : Ap (k + 11) (p0.1 :: p1.1 :: p2.1 :: p3.1 :: p4.1 :: p5.1 :: p6.1 :: p7.1 :: p8.1 :: p9.1 :: d :: post.map Prod.fst)) : Upd d o o' (p0 :: p1 :: p2 :: p3 :: p4 :: p5 :: p6 :: p7 :: p8 :: p9 :: (d, o) :: post) (p0 :: p1 :: p2 :: p3 :: p4 :: p5 :: p6 :: p7 :: p8 :: p9 :: (d, o') :: post) :=
  upeN [p0, p1, p2, p3, p4, p5, p6, p7, p8, p9] H
theorem upe11 {k : Nat} {p0 p1 p2 p3 p4 p5 p6 p7 p8 p9 p10 : Addr × Obj} {d : Addr} {o o' : Obj} {post : List (Addr × Obj)} (H : Ap (k + 12) (p0.1 :: p1.1 :: p2.1 :: p3.1 :: p4.1 :: p5.1 :: p6.1 :: p7.1 :: p8.1 :: p9.1 :: p10.1 :: d :: post.map Prod.fst)) : Upd d o o' (p0 :: p1 :: p2 :: p3 :: p4 :: p5 :: p6 :: p7 :: p8 :: p9 :: p10 :: (d, o) :: post) (p0 :: p1 :: p2 :: p3 :: p4 :: p5 :: p6 :: p7 :: p8 :: p9 :: p10 :: (d, o') :: post) :=
  upeN [p0, p1, p2, p3, p4, p5, p6, p7, p8, p9, p10] H
theorem upe12 {k : Nat} {p0 p1 p2 p3 p4 p5 p6 p7 p8 p9 p10 p11 : Addr × Obj} {d : Addr} {o o' : Obj} {post : List (Addr × Obj)} (H : Ap (k + 13) (p0.1 :: p1.1 :: p2.1 :: p3.1 :: p4.1 :: p5.1 :: p6.1 :: p7.1 :: p8.1 :: p9.1 :: p10.1 :: p11.1 :: d :: post.map Prod.fst)) : Upd d o o' (p0 :: p1 :: p2 :: p3 :: p4 :: p5 :: p6 :: p7 :: p8 :: p9 :: p10 :: p11 :: (d, o) :: post) (p0 :: p1 :: p2 :: p3 :: p4 :: p5 :: p6 :: p7 :: p8 :: p9 :: p10 :: p11 :: (d, o') :: post) :=
  upeN [p0, p1, p2, p3, p4, p5, p6, p7, p8, p9, p10, p11] H
theorem upe13 {k : Nat} {p0 p1 p2 p3 p4 p5 p6 p7 p8 p9 p10 p11 p12 : Addr × Obj} {d : Addr} {o o' : Obj} {post : List (Addr × Obj)} (H : Ap (k + 14) (p0.1 :: p1.1 :: p2.1 :: p3.1 :: p4.1 :: p5.1 :: p6.1 :: p7.1 :: p8.1 :: p9.1 :: p10.1 :: p11.1 :: p12.1 :: d :: post.map Prod.fst)) : Upd d o o' (p0 :: p1 :: p2 :: p3 :: p4 :: p5 :: p6 :: p7 :: p8 :: p9 :: p10 :: p11 :: p12 :: (d, o) :: post) (p0 :: p1 :: p2 :: p3 :: p4 :: p5 :: p6 :: p7 :: p8 :: p9 :: p10 :: p11 :: p12 :: (d, o') :: post) :=
  upeN [p0, p1, p2, p3, p4, p5, p6, p7, p8, p9, p10, p11, p12] H
theorem upe14 {k : Nat} {p0 p1 p2 p3 p4 p5 p6 p7 p8 p9 p10 p11 p12 p13 : Addr × Obj} {d : Addr} {o o' : Obj} {post : List (Addr × Obj)} (H : Ap (k + 15) (p0.1 :: p1.1 :: p2.1 :: p3.1 :: p4.1 :: p5.1 :: p6.1 :: p7.1 :: p8.1 :: p9.1 :: p10.1 :: p11.1 :: p12.1 :: p13.1 :: d :: post.map Prod.fst)) : Upd d o o' (p0 :: p1 :: p2 :: p3 :: p4 :: p5 :: p6 :: p7 :: p8 :: p9 :: p10 :: p11 :: p12 :: p13 :: (d, o) :: post) (p0 :: p1 :: p2 :: p3 :: p4 :: p5 :: p6 :: p7 :: p8 :: p9 :: p10 :: p11 :: p12 :: p13 :: (d, o') :: post) :=
  upeN [p0, p1, p2, p3, p4, p5, p6, p7, p8, p9, p10, p11, p12, p13] H
theorem upe15 {k : Nat} {p0 p1 p2 p3 p4 p5 p6 p7 p8 p9 p10 p11 p12 p13 p14 : Addr × Obj} {d : Addr} {o o' : Obj} {post : List (Addr × Obj)} (H : Ap (k + 16) (p0.1 :: p1.1 :: p2.1 :: p3.1 :: p4.1 :: p5.1 :: p6.1 :: p7.1 :: p8.1 :: p9.1 :: p10.1 :: p11.1 :: p12.1 :: p13.1 :: p14.1 :: d :: post.map Prod.fst)) : Upd d o o' (p0 :: p1 :: p2 :: p3 :: p4 :: p5 :: p6 :: p7 :: p8 :: p9 :: p10 :: p11 :: p12 :: p13 :: p14 :: (d, o) :: post) (p0 :: p1 :: p2 :: p3 :: p4 :: p5 :: p6 :: p7 :: p8 :: p9 :: p10 :: p11 :: p12 :: p13 :: p14 :: (d, o') :: post) :=
  upeN [p0, p1, p2, p3, p4, p5, p6, p7, p8, p9, p10, p11, p12, p13, p14] H
/-- the same over a tail that is longer by things that stand in it -/
theorem Ap.tail {k : Nat} {pre : List Addr} : ∀ {t t' : List Addr}, (∀ a ∈ t', a ∈ t) → pre.length = k → Ap k (pre ++ t) → Ap k (pre ++ t') := by
  induction pre generalizing k with
  | nil => intro t t' _ hk _; subst hk; trivial
  | cons a pre ih =>
    intro t t' ht hk H
    subst hk
    refine ⟨fun hm => H.1 ?_, ih ht rfl H.2⟩
    rcases List.mem_append.mp hm with h | h
    · exact List.mem_append.mpr (.inl h)
    · exact List.mem_append.mpr (.inr (ht a h))
theorem Ap.off {k : Nat} {pre : List Addr} : ∀ {t t' : List Addr}, pre.length = k → Ap k (pre ++ t) → (∀ a ∈ t', a ∈ t ∨ a ∉ pre) → Ap k (pre ++ t') := by
  induction pre generalizing k with
  | nil => intro t t' hk _ _; subst hk; trivial
  | cons a pre ih =>
    intro t t' hk H ht
    subst hk
    refine ⟨fun hm => H.1 ?_, ih rfl H.2 fun b hb => (ht b hb).imp id fun h h' => h (.tail _ h')⟩
    rcases List.mem_append.mp hm with h | h
    · exact List.mem_append.mpr (.inl h)
    · rcases ht a h with h | h
      · exact List.mem_append.mpr (.inr h)
      · exact absurd (List.mem_cons_self) h
theorem Ap.fewer {k j : Nat} : ∀ {as : List Addr}, Ap (k + j) as → Ap k as := by
  induction k with
  | zero => intro as _; trivial
  | succ k ih =>
    intro as H
    cases as with
    | nil => trivial
    | cons a as => rw [Nat.succ_add] at H; exact ⟨H.1, ih H.2⟩
end Mine
end
section
open PySem PySem.W PySem.Calls PyProof.Rows
set_option maxRecDepth 100000
set_option linter.unusedVariables false
set_option genInjectivity false
set_option genSizeOfSpec false
namespace Mine
theorem lt_neG {d c : Addr} {l : List (Addr × Obj)} (h : ∀ p ∈ l, p.1 < d) (k : @LE.le Nat _ d c) : ∀ p ∈ l, p.1 ≠ c := fun p hp => Nat.ne_of_lt (Nat.lt_of_lt_of_le (h p hp) k)
/-! lines of the library in which the count of tokens, and the token of an int that is laid down, are forgotten -/
section
variable {M : Model} {A : Around} {E : Value → Shared → Prop} {h₀ : Heap} {L a : Addr} {m : Str → Option Value} {cn : Str} {cs : Scope} {ccd : Value} {cl : List (Str × Addr)} {x : Str}
  {hp : Heap} {gn : Array GenState} {dr : Drawn} {tk : Nat} {os : OsState} {news : List (Addr × Obj)}
theorem store_any {v : Value} {Q : Unit → Shared → Prop} (F : Fr h₀ L hp m) (N : News h₀ L hp news)
    (h : ∀ h' tk', Fr h₀ L h' (fun y => if y = x then some v else m y) → News h₀ L h' news → Q () ⟨h', gn, dr, tk', os⟩)
    (hk : cs.kind = .function) (hx : (envX cn cs L a ccd cl).kindOf x = some .local) : wpAny M A (storeName (envX cn cs L a ccd cl) x v) Q E ⟨hp, gn, dr, tk, os⟩ :=
  storeX_L (s := ⟨hp, gn, dr, tk, os⟩) F N (fun h' F' N' => h h' _ F' N') hk hx
theorem store_int {n : Int} {t : Tok} {Q : Unit → Shared → Prop} (F : Fr h₀ L hp m) (N : News h₀ L hp news)
    (h : ∀ t' h' tk', Fr h₀ L h' (fun y => if y = x then some (.int n t') else m y) → News h₀ L h' news → Q () ⟨h', gn, dr, tk', os⟩)
    (hk : cs.kind = .function) (hx : (envX cn cs L a ccd cl).kindOf x = some .local) : wpAny M A (storeName (envX cn cs L a ccd cl) x (.int n t)) Q E ⟨hp, gn, dr, tk, os⟩ :=
  store_any F N (h t) hk hx
theorem tup_any {vs : List Value} {Q : Value → Shared → Prop} (F : Fr h₀ L hp m) (N : News h₀ L hp news)
    (h : ∀ D h' tk', Fr h₀ L h' m → News h₀ L h' ((D, ({ cls := .type "tuple", data := .seq vs.toArray } : Obj)) :: news) → (∀ p ∈ news, p.1 < D) → Q (.ref D) ⟨h', gn, dr, tk', os⟩) (hz : vs.length ≤ sizeLine) :
    wpAny M A (newTuple vs) Q E ⟨hp, gn, dr, tk, os⟩ :=
  kup_newTuple (s := ⟨hp, gn, dr, tk, os⟩) F N (fun D h' => h D h' _) hz
theorem tup_2 {x y : Int} {tx ty : Tok} {Q : Value → Shared → Prop} (F : Fr h₀ L hp m) (N : News h₀ L hp news)
    (h : ∀ tx ty D h' tk', Fr h₀ L h' m → News h₀ L h' ((D, ({ cls := .type "tuple", data := .seq [.int x tx, .int y ty].toArray } : Obj)) :: news) → (∀ p ∈ news, p.1 < D) → Q (.ref D) ⟨h', gn, dr, tk', os⟩) :
    wpAny M A (newTuple [.int x tx, .int y ty]) Q E ⟨hp, gn, dr, tk, os⟩ := tup_any F N (h tx ty) (Nat.le_of_ble_eq_true rfl)
theorem tup_3 {x y z : Int} {tx ty tz : Tok} {Q : Value → Shared → Prop} (F : Fr h₀ L hp m) (N : News h₀ L hp news)
    (h : ∀ tx ty tz D h' tk', Fr h₀ L h' m → News h₀ L h' ((D, ({ cls := .type "tuple", data := .seq [.int x tx, .int y ty, .int z tz].toArray } : Obj)) :: news) → (∀ p ∈ news, p.1 < D) → Q (.ref D) ⟨h', gn, dr, tk', os⟩) :
    wpAny M A (newTuple [.int x tx, .int y ty, .int z tz]) Q E ⟨hp, gn, dr, tk, os⟩ := tup_any F N (h tx ty tz) (Nat.le_of_ble_eq_true rfl)
theorem list_any {vs : List Value} {Q : Value → Shared → Prop} (F : Fr h₀ L hp m) (N : News h₀ L hp news)
    (h : ∀ l h' tk', Fr h₀ L h' m → News h₀ L h' ((l, listOf vs.toArray 0) :: news) → (∀ p ∈ news, p.1 < l) → Q (.ref l) ⟨h', gn, dr, tk', os⟩) (hz : vs.length ≤ sizeLine) :
    wpAny M A (newList vs) Q E ⟨hp, gn, dr, tk, os⟩ :=
  newList_K (s := ⟨hp, gn, dr, tk, os⟩) F N (fun D h' => h D h' _) hz
theorem list_1 {x : Int} {tx : Tok} {Q : Value → Shared → Prop} (F : Fr h₀ L hp m) (N : News h₀ L hp news)
    (h : ∀ tx D h' tk', Fr h₀ L h' m → News h₀ L h' ((D, listOf [.int x tx].toArray 0) :: news) → (∀ p ∈ news, p.1 < D) → Q (.ref D) ⟨h', gn, dr, tk', os⟩) :
    wpAny M A (newList [.int x tx]) Q E ⟨hp, gn, dr, tk, os⟩ := list_any F N (h tx) (Nat.le_of_ble_eq_true rfl)
theorem list_4 {x y z u : Int} {tx ty tz tu : Tok} {Q : Value → Shared → Prop} (F : Fr h₀ L hp m) (N : News h₀ L hp news)
    (h : ∀ tx ty tz tu D h' tk', Fr h₀ L h' m → News h₀ L h' ((D, listOf [.int x tx, .int y ty, .int z tz, .int u tu].toArray 0) :: news) → (∀ p ∈ news, p.1 < D) → Q (.ref D) ⟨h', gn, dr, tk', os⟩) :
    wpAny M A (newList [.int x tx, .int y ty, .int z tz, .int u tu]) Q E ⟨hp, gn, dr, tk, os⟩ := list_any F N (h tx ty tz tu) (Nat.le_of_ble_eq_true rfl)
end

/-! plain expressions read off at once -/
structure Gives (M : Model) (A : Around) (env : Env) (hp : Heap) (tk : Nat) (e : Expr) (v : Value) (tk' : Nat) : Prop where
  go : ∀ (E Q : Value → Shared → Prop) (gn : Array GenState) (dr : Drawn) (os : OsState), Q v ⟨hp, gn, dr, tk', os⟩ → wpAny M A (eval e env) Q E ⟨hp, gn, dr, tk, os⟩
structure GivesL (M : Model) (A : Around) (env : Env) (hp : Heap) (tk : Nat) (es : List Expr) (vs : List Value) (tk' : Nat) : Prop where
  go : ∀ (E : Value → Shared → Prop) (Q : List Value → Shared → Prop) (pos : Pos) (gn : Array GenState) (dr : Drawn) (os : OsState), Q vs ⟨hp, gn, dr, tk', os⟩ → wpAny M A (spliced (backTo pos (starEach es env))) Q E ⟨hp, gn, dr, tk, os⟩
section
variable {M : Model} {A : Around} {E : Value → Shared → Prop} {h₀ : Heap} {L a : Addr} {m mg mb : Str → Option Value} {cn : Str} {cs : Scope} {ccd : Value} {cl : List (Str × Addr)} {x : Str} {pos : Pos} {v : Value} {env : Env}
  {hp : Heap} {gn : Array GenState} {dr : Drawn} {tk tk1 tk2 : Nat} {os : OsState} {news : List (Addr × Obj)} {K : Frag} {p : Program} {loose : List Str} {mean : ExcName → Option Value}
theorem gv_name (F : Fr h₀ L hp m) (hv : m x = some v) (hk : cs.kind = .function) (hx : (envX cn cs L a ccd cl).kindOf x = some .local) (hd : (x == ("__debug__" : Str)) = false) :
    Gives M A (envX cn cs L a ccd cl) hp tk (.Name x pos) v tk := ⟨fun _ _ _ _ _ h => nameX_L F hv h hk hx hd⟩
theorem gv_cell {c : Addr} {o : Obj} (N : News h₀ L hp news) (hc : cl.lookup x = some c) (hm : (c, o) ∈ news) (ho : o.data = .cell (some v))
    (hk : cs.kind = .function) (hx : (envX cn cs L a ccd cl).kindOf x = some .cell) (hd : (x == ("__debug__" : Str)) = false) :
    Gives M A (envX cn cs L a ccd cl) hp tk (.Name x pos) v tk := ⟨fun _ _ _ _ _ h => nameX_C (s := ⟨_, _, _, _, _⟩) N hc hm ho h hk hx hd⟩
theorem gv_glob (F : Fr h₀ L hp m) (X : K.In h₀) (T : TopRead p loose mg mb h₀) (e : nsIn K mainGlobals x = some (some v))
    (hk : cs.kind = .function) (hx : (envX cn cs L a ccd cl).kindOf x = some .globalImplicit) (hd : (x == ("__debug__" : Str)) = false) :
    Gives M A (envX cn cs L a ccd cl) hp tk (.Name x pos) v tk := ⟨fun _ _ _ _ _ h => nameX_K (s := ⟨_, _, _, _, _⟩) F X T e h hk hx hd⟩
theorem gv_int {i : Int} {k : Nat} : Gives M A env hp tk (.Constant (.int i) k pos) (.int i tk) (tk + 1) := ⟨fun _ _ _ _ _ h => wpAny_Constant_int h⟩
theorem gl_nil : GivesL M A env hp tk [] [] tk := ⟨fun _ _ _ _ _ _ h => args_nil h⟩
theorem gl_cons {e : Expr} {es : List Expr} {vs : List Value} (g : Gives M A env hp tk e v tk1) (gs : GivesL M A env hp tk1 es vs tk2)
    (he : starEach (e :: es) env = (false, eval e env) :: starEach es env) : GivesL M A env hp tk (e :: es) (v :: vs) tk2 := ⟨fun _ _ _ _ _ _ h => args_cons (g.go _ _ _ _ _ (gs.go _ _ _ _ _ _ h)) he⟩
theorem eval_gv {e : Expr} {Q : Value → Shared → Prop} (g : Gives M A env hp tk e v tk1) (h : Q v ⟨hp, gn, dr, tk1, os⟩) : wpAny M A (eval e env) Q E ⟨hp, gn, dr, tk, os⟩ := g.go _ _ _ _ _ h
theorem spliced_gv {es : List Expr} {vs : List Value} {Q : List Value → Shared → Prop} (g : GivesL M A env hp tk es vs tk1) (h : Q vs ⟨hp, gn, dr, tk1, os⟩) :
    wpAny M A (spliced (backTo pos (starEach es env))) Q E ⟨hp, gn, dr, tk, os⟩ := g.go _ _ _ _ _ _ h
theorem callWith_gv {f : Value} {e : Expr} {es : List Expr} {first vs : List Value} {Q : Value → Shared → Prop} (X : K.In h₀) (F : Fr h₀ L hp m) (hk : keepIn K f = true) (g : GivesL M A env hp tk (e :: es) vs tk1)
    (h : wpAny M A (call f (first ++ vs)) Q E ⟨hp, gn, dr, tk1, os⟩)
    (he : starEach (e :: es) env = (false, eval e env) :: starEach es env) (hplain : (backTo pos (starEach es env)).any (·.1) = false) :
    wpAny M A (callWith pos f first (backTo pos (starEach (e :: es) env)) []) Q E ⟨hp, gn, dr, tk, os⟩ :=
  callWith_K X hk (g.go _ _ _ _ _ _ ⟨X.keeps F.keep, h⟩) he hplain
theorem call_gv {f : Value} {func e : Expr} {es : List Expr} {vs : List Value} {Q : Value → Shared → Prop} (X : K.In h₀) (F : Fr h₀ L hp m) (gf : Gives M A env hp tk func f tk1) (hk : keepIn K f = true) (g : GivesL M A env hp tk1 (e :: es) vs tk2)
    (h : wpAny M A (call f vs) Q E ⟨hp, gn, dr, tk2, os⟩)
    (hc : eval (.Call func (e :: es) [] pos) env = (do callWith pos (← eval func env) [] (backTo pos (starEach (e :: es) env)) (backToKw pos (keywordEach [] env))))
    (he : starEach (e :: es) env = (false, eval e env) :: starEach es env) (hplain : (backTo pos (starEach es env)).any (·.1) = false) :
    wpAny M A (eval (.Call func (e :: es) [] pos) env) Q E ⟨hp, gn, dr, tk, os⟩ :=
  Call_ (gf.go _ _ _ _ _ (callWith_gv (first := []) X F hk g h he hplain)) hc
end
section
variable {prog : Program} {w : World} {A : Around} {E : Value → Shared → Prop} {env : Env} {hp : Heap} {gn : Array GenState} {dr : Drawn} {tk tk1 tk2 : Nat} {os : OsState} {l r : Expr} {x y : Int} {t u : Tok} {pos : Pos}
theorem gv_add (g : Gives (model prog w) A env hp tk l (.int x t) tk1) (g' : Gives (model prog w) A env hp tk1 r (.int y u) tk2) : Gives (model prog w) A env hp tk (.BinOp l .Add r pos) (.int (x + y) tk2) (tk2 + 1) := ⟨fun _ _ _ _ _ h => wpAny_BinOp (g.go _ _ _ _ _ (g'.go _ _ _ _ _ (PyProof.Rows.add_int (s := ⟨hp, _, _, tk2, _⟩) h)))⟩
theorem gv_sub (g : Gives (model prog w) A env hp tk l (.int x t) tk1) (g' : Gives (model prog w) A env hp tk1 r (.int y u) tk2) : Gives (model prog w) A env hp tk (.BinOp l .Sub r pos) (.int (x - y) tk2) (tk2 + 1) := ⟨fun _ _ _ _ _ h => wpAny_BinOp (g.go _ _ _ _ _ (g'.go _ _ _ _ _ (PyProof.Rows.sub_int (s := ⟨hp, _, _, tk2, _⟩) h)))⟩
variable {whole : Sem Value} {Q : Bool → Shared → Prop}
theorem ts_lt (g : Gives (model prog w) A env hp tk l (.int x t) tk1) (g' : Gives (model prog w) A env hp tk1 r (.int y u) tk2) (h : Q (decide (x < y)) ⟨hp, gn, dr, tk2, os⟩)
    (hm : behindInMarks .Lt r = false) : wpAny (model prog w) A (isTrue (.Compare l [.Lt] [r] pos) env whole) Q E ⟨hp, gn, dr, tk, os⟩ :=
  wpAny_isTrue_Compare1 (g.go _ _ _ _ _ (g'.go _ _ _ _ _ (PyProof.Rows.lt_int (s := ⟨hp, _, _, tk2, _⟩) (wpAny_truthy_bool h)))) hm
theorem ts_le (g : Gives (model prog w) A env hp tk l (.int x t) tk1) (g' : Gives (model prog w) A env hp tk1 r (.int y u) tk2) (h : Q (decide (x ≤ y)) ⟨hp, gn, dr, tk2, os⟩)
    (hm : behindInMarks .LtE r = false) : wpAny (model prog w) A (isTrue (.Compare l [.LtE] [r] pos) env whole) Q E ⟨hp, gn, dr, tk, os⟩ :=
  wpAny_isTrue_Compare1 (g.go _ _ _ _ _ (g'.go _ _ _ _ _ (PyProof.Rows.le_int (s := ⟨hp, _, _, tk2, _⟩) (wpAny_truthy_bool h)))) hm
theorem ts_gt (g : Gives (model prog w) A env hp tk l (.int x t) tk1) (g' : Gives (model prog w) A env hp tk1 r (.int y u) tk2) (h : Q (decide (y < x)) ⟨hp, gn, dr, tk2, os⟩)
    (hm : behindInMarks .Gt r = false) : wpAny (model prog w) A (isTrue (.Compare l [.Gt] [r] pos) env whole) Q E ⟨hp, gn, dr, tk, os⟩ :=
  wpAny_isTrue_Compare1 (g.go _ _ _ _ _ (g'.go _ _ _ _ _ (PyProof.Rows.gt_int (s := ⟨hp, _, _, tk2, _⟩) (wpAny_truthy_bool h)))) hm
theorem ts_ge (g : Gives (model prog w) A env hp tk l (.int x t) tk1) (g' : Gives (model prog w) A env hp tk1 r (.int y u) tk2) (h : Q (decide (y ≤ x)) ⟨hp, gn, dr, tk2, os⟩)
    (hm : behindInMarks .GtE r = false) : wpAny (model prog w) A (isTrue (.Compare l [.GtE] [r] pos) env whole) Q E ⟨hp, gn, dr, tk, os⟩ :=
  wpAny_isTrue_Compare1 (g.go _ _ _ _ _ (g'.go _ _ _ _ _ (PyProof.Rows.ge_int (s := ⟨hp, _, _, tk2, _⟩) (wpAny_truthy_bool h)))) hm
theorem ts_eq (g : Gives (model prog w) A env hp tk l (.int x t) tk1) (g' : Gives (model prog w) A env hp tk1 r (.int y u) tk2) (h : Q (x == y) ⟨hp, gn, dr, tk2, os⟩)
    (hm : behindInMarks .Eq r = false) : wpAny (model prog w) A (isTrue (.Compare l [.Eq] [r] pos) env whole) Q E ⟨hp, gn, dr, tk, os⟩ :=
  wpAny_isTrue_Compare1 (g.go _ _ _ _ _ (g'.go _ _ _ _ _ (PyProof.Rows.eq_int (s := ⟨hp, _, _, tk2, _⟩) (wpAny_truthy_bool h)))) hm
theorem ts_ne (g : Gives (model prog w) A env hp tk l (.int x t) tk1) (g' : Gives (model prog w) A env hp tk1 r (.int y u) tk2) (h : Q (x != y) ⟨hp, gn, dr, tk2, os⟩)
    (hm : behindInMarks .NotEq r = false) : wpAny (model prog w) A (isTrue (.Compare l [.NotEq] [r] pos) env whole) Q E ⟨hp, gn, dr, tk, os⟩ :=
  wpAny_isTrue_Compare1 (g.go _ _ _ _ _ (g'.go _ _ _ _ _ (PyProof.Rows.ne_int (s := ⟨hp, _, _, tk2, _⟩) (wpAny_truthy_bool h)))) hm
theorem gv_attr {K : Frag} {h₀ : Heap} {L : Addr} {m : Str → Option Value} {xn name : Str} {o C d : Addr} {ox : Obj} {es : List DictEntry} {n : Nat} {v : Value} {attr : Option Value} {xp : Pos}
    (g : Gives (model prog w) A env hp tk (.Name xn xp) (.ref o) tk1) (F : Fr h₀ L hp m) (X₀ : K.In h₀) (I : InstAt hp o ox C (some (dictOf es n))) (hg : plainGet K C name = true) (hh : hasDictIn K C = true)
    (ha : findIn K (.ref C) name = some attr) (hn : noGet K attr = true) (hl : getL name es = some (some v)) (hv : handedIn v = true)
    (he : eval (.Attribute (.Name xn xp) name pos) env = (do
      let o ← eval (.Name xn xp) env
      standAt pos.atName
      let r ← holding [o] (getAttr o name true)
      letTemporaryGo (.Name xn xp) o r
      pure r)) : Gives (model prog w) A env hp tk (.Attribute (.Name xn xp) name pos) v (tk1 + 1) := ⟨fun _ _ _ _ _ h => Attribute_Name_ (g.go _ _ _ _ _ (get_own (s := ⟨hp, _, _, tk1, _⟩) F X₀ I hg hh ha hn hl hv h)) he⟩
end
/-! a test that comes to one answer by several ways: one way on -/
structure TkPost (b0 : Bool) (hp : Heap) (gn : Array GenState) (dr : Drawn) (os : OsState) (b : Bool) (s : Shared) : Prop where
  val : b = b0
  st : ∃ tk, s = ⟨hp, gn, dr, tk, os⟩
theorem test_join {M : Model} {A : Around} {E : Value → Shared → Prop} {hp : Heap} {gn : Array GenState} {dr : Drawn} {tk0 : Nat} {os : OsState} {e : Expr} {env : Env} {whole : Sem Value} {Q : Bool → Shared → Prop} (b0 : Bool)
    (h1 : wpAny M A (isTrue e env whole) (TkPost b0 hp gn dr os) E ⟨hp, gn, dr, tk0, os⟩) (h2 : ∀ tk, Q b0 ⟨hp, gn, dr, tk, os⟩) : wpAny M A (isTrue e env whole) Q E ⟨hp, gn, dr, tk0, os⟩ :=
  wpAny_mono h1 (fun b s' ⟨hb, tk, hs⟩ => hb ▸ hs ▸ h2 tk) (fun _ _ e => e)
section
variable {prog : Program} {w : World} {A A₀ : Around} {s : Shared} {K : Frag} {L : Addr} {h₀ base : Heap} {m mg mb : Str → Option Value} {news : List (Addr × Obj)} {p : Program} {loose : List Str} {mean : ExcName → Option Value}
theorem code_any {env : Env} {outer : List Env} {R : Result → Shared → Prop} {name qual : Str} {params : Arguments} {body : List Stmt} {scope : Scope} {dV kV doc pm cdv ct oc : Value} {an od : Option Addr} {osl : Array (Option Value)} {f : Addr} {args : Args} {binds : List (Str × Value)}
    (B : Below A₀ base outer h₀) (F : Fr h₀ L s.heap m) (X₀ : K.In h₀) (N : News h₀ L s.heap news) (T : Top p loose mean mg mb h₀) (hA : A.frames = some (env :: outer)) (hf : env.frame = some L) (hke : env.scope.kind = .function)
    (ho : K.lookup f = some ⟨oc, od, .func (fnOf name qual params body scope dV kV doc pm an cdv ct), osl⟩) (hcd : codeIn K cdv qual = true) (hroom : A.depth < recursionLimit)
    (hbind : BindsTo s (fnOf name qual params body scope dV kV doc pm an cdv ct) args binds) (hloc : ∀ y ∈ binds, scope.names.lookup y.1 = some .local)
    (h : ∀ g L' h₁ tk, Fr h₀ L g m → Fr g L' h₁ (fun y => binds.reverse.lookup y) → News g L' h₁ news → Below A base (env :: outer) g → K.In g → Top p loose mean mg mb g →
      wpAny (model prog w) (A.deeper (envOf qual scope L' f cdv)) (execs body (envOf qual scope L' f cdv))
        (fun fl s' => LeaveK h₀ L m g R (match fl with | .ret v => v | _ => .none) s')
        (fun e s' => wpAny (model prog w) (A.deeper (envOf qual scope L' f cdv)) (leaving (envOf qual scope L' f cdv) e) (fun _ s'' => R (.error e) s'') (fun e' s'' => R (.error e') s'') s')
        { s with heap := h₁, toks := tk })
    (hco : scope.isCoroutine = false) (hgen : scope.isGenerator = false) (hk : scope.kind = .function)
    (hcell : ∀ x ∈ scope.names, x.2 ≠ .cell) : codeAny (model prog w) A (.call (.ref f) args) R s :=
  code_def B F X₀ N T hA hf hke ho hcd hroom hbind hloc (fun g L' h₁ a b c d e f => h g L' h₁ _ a b c d e f) hco hgen hk hcell
end
/-! an if that sets one int or not: one way on -/
inductive StAt (h₀ : Heap) (L : Addr) (x : Str) (m : Str → Option Value) (news : List (Addr × Obj)) (gn : Array GenState) (dr : Drawn) (os : OsState) : Shared → Prop
  | mk (h : Heap) (tk : Nat) (v : Int) (t : Tok) (F : Fr h₀ L h (fun y => if y = x then some (.int v t) else m y)) (N : News h₀ L h news) : StAt h₀ L x m news gn dr os ⟨h, gn, dr, tk, os⟩
structure StPost (h₀ : Heap) (L : Addr) (x : Str) (m : Str → Option Value) (news : List (Addr × Obj)) (gn : Array GenState) (dr : Drawn) (os : OsState) (fl : Flow) (s : Shared) : Prop where
  nx : fl = .next
  st : StAt h₀ L x m news gn dr os s
theorem st_join {M : Model} {A : Around} {E : Value → Shared → Prop} {h₀ : Heap} {L : Addr} {x : Str} {m : Str → Option Value} {news : List (Addr × Obj)} {hp : Heap} {gn : Array GenState} {dr : Drawn} {tk : Nat} {os : OsState} {v0 : Int} {t0 : Tok} {st : Stmt} {env : Env} {Q : Flow → Shared → Prop}
    (F : Fr h₀ L hp (fun y => if y = x then some (.int v0 t0) else m y)) (N : News h₀ L hp news)
    (h1 : wpAny M A (exec st env) (StPost h₀ L x m news gn dr os) E ⟨hp, gn, dr, tk, os⟩)
    (h2 : ∀ v t h tk, Fr h₀ L h (fun y => if y = x then some (.int v t) else m y) → News h₀ L h news → Q .next ⟨h, gn, dr, tk, os⟩) : wpAny M A (exec st env) Q E ⟨hp, gn, dr, tk, os⟩ :=
  wpAny_mono h1 (fun fl s' ⟨hf, hs⟩ => by cases hs with | mk h tk v t F N => exact hf ▸ h2 v t h tk F N) (fun _ _ e => e)
theorem fr_twice {h₀ h : Heap} {L : Addr} {x : Str} {m : Str → Option Value} {a b : Option Value} (F : Fr h₀ L h (fun y => if y = x then a else if y = x then b else m y)) : Fr h₀ L h (fun y => if y = x then a else m y) := by
  have e : (fun y => if y = x then a else if y = x then b else m y) = fun y => if y = x then a else m y := by
    funext y
    by_cases c : y = x
    · rw [if_pos c, if_pos c]
    · rw [if_neg c, if_neg c, if_neg c]
  rw [← e]; exact F
end Mine
end
section
open PySem PySem.W PySem.Calls PyProof.Rows
namespace Mine

noncomputable def shareF (low high most level : Int) : Int :=
  if level ≤ low then 0 else if level ≥ high then 10000 else (most * (level - low)).fdiv (high - low)

noncomputable def shG (low high most level : Int) (l : List Int) (k : Int) : List Int := if k * (high - low) ≤ most * (level - low) then l ++ [k] else l
theorem shG_grows (low high most level : Int) : KPfGrows (shG low high most level) := by
  intro l k
  unfold shG
  split <;> simp

theorem rangeKs_succ (n : Nat) : rangeKs 0 (n + 1) = rangeKs 0 n ++ [(n : Int)] := by
  simp [rangeKs, List.range_succ]

theorem shG_fold {low high most level q : Int} (hd : low < high) (hq : q = (most * (level - low)).fdiv (high - low)) (h0 : 0 ≤ q) (n : Nat) :
    (rangeKs 0 n).foldl (shG low high most level) [] = rangeKs 0 (min n (q + 1).toNat) := by
  induction n with
  | zero => simp [rangeKs]
  | succ n ih =>
    rw [rangeKs_succ, List.foldl_append, ih]
    simp only [List.foldl_cons, List.foldl_nil]
    have key : ((n : Int) * (high - low) ≤ most * (level - low)) ↔ (n : Int) ≤ q := by
      rw [hq, Int.fdiv_eq_ediv_of_nonneg _ (by omega)]
      exact (Int.le_ediv_iff_mul_le (by omega)).symm
    unfold shG
    by_cases h : (n : Int) ≤ q
    · rw [if_pos (key.mpr h)]
      have hx : n + 1 ≤ (q + 1).toNat := by clear key hq hd; omega
      have e1 : min n (q + 1).toNat = n := Nat.min_eq_left (Nat.le_of_succ_le hx)
      have e2 : min (n + 1) (q + 1).toNat = n + 1 := Nat.min_eq_left hx
      rw [e1, e2, rangeKs_succ]
    · rw [if_neg (fun x => h (key.mp x))]
      have hx : (q + 1).toNat ≤ n := by clear key hq hd; omega
      have e1 : min n (q + 1).toNat = min (n + 1) (q + 1).toNat := by rw [Nat.min_eq_right hx, Nat.min_eq_right (Nat.le_succ_of_le hx)]
      rw [e1]

theorem share_q {low high most level : Int} (h1 : low < level) (h2 : level < high) (h3 : 0 ≤ most) :
    0 ≤ (most * (level - low)).fdiv (high - low) ∧ (most * (level - low)).fdiv (high - low) ≤ most := by
  rw [Int.fdiv_eq_ediv_of_nonneg _ (by omega)]
  constructor
  · exact Int.ediv_nonneg (Int.mul_nonneg h3 (by omega)) (by omega)
  · have h : most * (level - low) ≤ most * (high - low) := Int.mul_le_mul_of_nonneg_left (by omega) h3
    calc most * (level - low) / (high - low) ≤ most * (high - low) / (high - low) := Int.ediv_le_ediv (by omega) h
      _ = most := Int.mul_ediv_cancel _ (by omega)

theorem share_last {low high most level : Int} (h1 : low < level) (h2 : level < high) (h3 : 0 ≤ most) :
    0 < ((rangeKs 0 (most + 1 - 0).toNat).foldl (shG low high most level) []).length ∧
    ((rangeKs 0 (most + 1 - 0).toNat).foldl (shG low high most level) []).getD ((-1 : Int) + (((rangeKs 0 (most + 1 - 0).toNat).foldl (shG low high most level) []).length : Nat)).toNat 0 = (most * (level - low)).fdiv (high - low) := by
  obtain ⟨q0, q1⟩ := share_q h1 h2 h3
  rw [shG_fold (q := (most * (level - low)).fdiv (high - low)) (by omega) rfl q0]
  generalize (most * (level - low)).fdiv (high - low) = q at *
  have e : min (most + 1 - 0).toNat (q + 1).toNat = q.toNat + 1 := by omega
  rw [e, rangeKs_length]
  refine ⟨by omega, ?_⟩
  have e2 : ((-1 : Int) + ((q.toNat + 1 : Nat) : Int)).toNat = q.toNat := by omega
  rw [e2, rangeKs_succ, List.getD_eq_getElem?_getD, List.getElem?_append_right (by rw [rangeKs_length]; exact Nat.le_refl _), rangeKs_length]
  simp
  omega
end Mine
end
section
open PySem PySem.W PySem.Calls PyProof.Rows
namespace Mine

/-- a comprehension whose element turns the ledger -/
noncomputable def CsEl {σ : Type} (Led : σ → List (Addr × Obj)) (J : σ → List Int → Prop) (l : List Int) (y : Value) (news' : List (Addr × Obj)) : Prop :=
  ∃ (c' : σ) (a : Int) (t : Tok), news' = Led c' ∧ y = .int a t ∧ J c' (l ++ [a])
theorem comp_state {prog : Program} {w : World} {A : Around} {h₀ : Heap} {L : Addr} {m : Str → Option Value} {env : Env} {elt : Expr} {x : Str} {scope : Scope} {cl : List (Str × Addr)} {s : Shared} {S : List (Addr × Obj) → Prop} {P : Nat → Value → Prop} {Fin : List Value → List (Addr × Obj) → Prop}
    {σ : Type} {n : Nat} (Led : σ → List (Addr × Obj)) (J : Nat → σ → List Int → Prop)
    (turn : ∀ i v c l ys I oI C oC D m₂ h tk (E' : Value → Shared → Prop), i < n → P i v → J i c l → IntsAre ys l → LCg.NsObj oC m₂ → m₂ x = some v → Fr h₀ L h m → News h₀ L h ((I, oI) :: (C, oC) :: (D, LCg.lst ys) :: Led c) → LCg.Off3 I C D (Led c) → ((@Ne Nat I C) ∧ (@Ne Nat I D) ∧ (@Ne Nat C D)) →
      wpAny (model prog w) A (eval elt (compEnvC scope cl C env)) (LCg.CompEnd h₀ L m { s with heap := h, toks := tk } I oI C oC D (LCg.lst ys) S (fun y news' => CsEl Led (J (i + 1)) l y news')) E' { s with heap := h, toks := tk })
    (fin : ∀ c l ys, J n c l → IntsAre ys l → Fin ys (Led c)) (c₀ : σ) (hj : J 0 c₀ []) : LCg.CompRest prog w A h₀ L m env elt x scope cl s S P Fin n 0 [] (Led c₀) := by
  have key : ∀ (j i : Nat) (ys : List Value) (c : σ) (l : List Int), i + j = n → J i c l → IntsAre ys l → LCg.CompRest prog w A h₀ L m env elt x scope cl s S P Fin j i ys (Led c) := by
    intro j
    induction j with
    | zero =>
      intro i ys c l hi hJ hy
      have e : i = n := by omega
      subst e
      exact LCg.CompRest.zero (fin c l ys hJ hy)
    | succ j ih =>
      intro i ys c l hi hJ hy
      refine LCg.CompRest.succ ?_
      intro v I oI C oC D m₂ h tk E' hv hC hx F N off ne
      refine wpAny_mono (turn i v c l ys I oI C oC D m₂ h tk E' (by omega) hv hJ hy hC hx F N off ne) (fun y s₂ hq => compEnd_mono (fun nw hr => ?_) hq) fun _ _ e => e
      obtain ⟨c', a, t, hn, hy', hJ'⟩ := hr
      subst hn
      rw [hy']
      exact ih (i + 1) _ c' _ (by omega) hJ' (IntsAre.append hy (.cons a t .nil))
  exact key n 0 [] c₀ [] (by omega) hj .nil

noncomputable def avgStep (sh p level : Int) : Int := p + level - p.fdiv (2 ^ sh.toNat)
noncomputable def avgVal (sh p : Int) : Int := p.fdiv (2 ^ sh.toNat)
noncomputable def avgIter (sh level p : Int) : Nat → Int
  | 0 => p
  | i + 1 => avgStep sh (avgIter sh level p i) level
noncomputable def avgOuts (sh level p : Int) (n : Nat) : List Int := (List.range n).map fun i => avgVal sh (avgIter sh level p (i + 1))
theorem avgOuts_succ (sh level p : Int) (n : Nat) : avgOuts sh level p (n + 1) = avgOuts sh level p n ++ [avgVal sh (avgIter sh level p (n + 1))] := by
  simp [avgOuts, List.range_succ]
theorem avgOuts_length (sh level p : Int) (n : Nat) : (avgOuts sh level p n).length = n := by simp [avgOuts]

theorem pow_cases {sh : Int} (h0 : 0 ≤ sh) (h1 : sh < 4) : (2 : Int) ^ sh.toNat = 1 ∨ (2 : Int) ^ sh.toNat = 2 ∨ (2 : Int) ^ sh.toNat = 4 ∨ (2 : Int) ^ sh.toNat = 8 := by
  have : sh = 0 ∨ sh = 1 ∨ sh = 2 ∨ sh = 3 := by omega
  rcases this with rfl | rfl | rfl | rfl <;> decide

/-- between nought and the top: the parts stay in their bounds -/
theorem avg_bounds {sh p level M : Int} (h0 : 0 ≤ sh) (h1 : sh < 4) (hp : 0 ≤ p) (hM : p < (M + 1) * 2 ^ sh.toNat) (hl : 0 ≤ level) (hl' : level ≤ M) :
    0 ≤ avgStep sh p level ∧ avgStep sh p level < (M + 1) * 2 ^ sh.toNat := by
  unfold avgStep
  rcases pow_cases h0 h1 with e | e | e | e <;> rw [e] at hM ⊢ <;> rw [Int.fdiv_eq_ediv_of_nonneg _ (by decide)] <;> constructor <;> omega
theorem avgVal_bounds {sh p M : Int} (h0 : 0 ≤ sh) (h1 : sh < 4) (hp : 0 ≤ p) (hM : p < (M + 1) * 2 ^ sh.toNat) : 0 ≤ avgVal sh p ∧ avgVal sh p ≤ M := by
  unfold avgVal
  rcases pow_cases h0 h1 with e | e | e | e <;> rw [e] at hM ⊢ <;> rw [Int.fdiv_eq_ediv_of_nonneg _ (by decide)] <;> constructor <;> omega

theorem avgIter_bounds {sh level p : Int} (h0 : 0 ≤ sh) (h1 : sh < 4) (hp : 0 ≤ p) (hp' : p < 10) (hl : 0 ≤ level) (hl' : level < 10) (i : Nat) : 0 ≤ avgIter sh level p i ∧ avgIter sh level p i < 10 * 2 ^ sh.toNat := by
  induction i with
  | zero =>
    unfold avgIter
    rcases pow_cases h0 h1 with e | e | e | e <;> rw [e] <;> constructor <;> omega
  | succ i ih =>
    have := avg_bounds (M := 9) h0 h1 ih.1 ih.2 hl (by omega)
    exact this

/-- the road to the level -/
theorem avgStep_up {sh p level : Int} (h0 : 0 ≤ sh) (h1 : sh < 4) (hp : 0 ≤ p) (h : avgVal sh p ≤ level) :
    avgVal sh (avgStep sh p level) ≤ level ∧ p ≤ avgStep sh p level ∧ (avgVal sh p < level → p < avgStep sh p level) := by
  unfold avgVal avgStep at *
  rcases pow_cases h0 h1 with e | e | e | e <;> rw [e] at h ⊢ <;> (repeat rw [Int.fdiv_eq_ediv_of_nonneg _ (by decide)] at *) <;> refine ⟨?_, ?_, ?_⟩ <;> omega
theorem avgStep_down {sh p level : Int} (h0 : 0 ≤ sh) (h1 : sh < 4) (hp : 0 ≤ p) (h : level ≤ avgVal sh p) :
    level ≤ avgVal sh (avgStep sh p level) ∧ avgStep sh p level ≤ p ∧ (level < avgVal sh p → avgStep sh p level < p) := by
  unfold avgVal avgStep at *
  rcases pow_cases h0 h1 with e | e | e | e <;> rw [e] at h ⊢ <;> (repeat rw [Int.fdiv_eq_ediv_of_nonneg _ (by decide)] at *) <;> refine ⟨?_, ?_, ?_⟩ <;> omega
theorem avgVal_mono {sh p q : Int} (h0 : 0 ≤ sh) (h1 : sh < 4) (h : p ≤ q) : avgVal sh p ≤ avgVal sh q := by
  unfold avgVal
  rcases pow_cases h0 h1 with e | e | e | e <;> rw [e] <;> (repeat rw [Int.fdiv_eq_ediv_of_nonneg _ (by decide)] at *) <;> omega
end Mine
end
section
open PySem PySem.W PySem.Spec PySem.Calls PyProof.Rows PyProof.Rows.LCg
set_option maxRecDepth 100000
namespace Mine

noncomputable abbrev ZSt (z TI TO i1 i2 l1 l2 : Addr) (xs ys : Array Value) (i : Nat) (h : Heap) : Prop :=
  IsZip h z TI TO .none ∧ IsPair h TI (.ref i1) (.ref i2) ∧ (∃ a b, IsPair h TO a b) ∧ h.IsListIter i1 l1 i ∧ h.IsListIter i2 l2 i ∧ h.IsList l1 xs ∧ h.IsList l2 ys

theorem zlt {n i : Nat} (h : i < n) : n + 1 - (i + 1) < n + 1 - i := by omega
/-- where a comprehension over two lists stands -/
inductive ZInv (z TI TO i1 i2 l1 l2 : Addr) (xs ys : Array Value) (h₀ : Heap) (L C D : Addr) (m : Str → Option Value) (G : Nat → Value) (news : List (Addr × Obj)) (s₂ : Shared) (k : Nat) : Shared → Prop
  | mk (h' : Heap) (tk i : Nat) (m' : Str → Option Value) (hi : i ≤ min xs.size ys.size) (hk : k = min xs.size ys.size + 1 - i) (hst : ZSt z TI TO i1 i2 l1 l2 xs ys i h') (F : Fr h₀ L h' m) (hn : h'.Ns C m')
      (N : News h₀ L h' ((D, lst ((List.range i).map G)) :: news)) : ZInv z TI TO i1 i2 l1 l2 xs ys h₀ L C D m G news s₂ k { s₂ with heap := h', toks := tk }
section
variable {prog : Program} {w : World} {A : Around} {E : Value → Shared → Prop} {h₀ : Heap} {L : Addr} {m : Str → Option Value} {env : Env}

/-- the block of a comprehension over two lists zipped, whose element only looks -/
theorem zc_block {elt iter : Expr} {xa xb : Str} {pa pb tp : Pos} {kk : Nat} {scope : Scope} {cl : List (Str × Addr)} {pos : Pos} {s₂ : Shared} {z TI TO i1 i2 l1 l2 : Addr} {xs ys : Array Value} {G : Nat → Value} {news : List (Addr × Obj)}
    {RR : Value → Addr → Result → Shared → Prop} (hh : A.handled = none) (AP : ZipApart z TI TO i1 i2 l1 l2) (hsz : min xs.size ys.size ≤ sizeLine)
    (hcell : ∀ y ∈ scope.names, y.2 ≠ .cell) (hkind : scope.kind = .function) (hxa : scope.names.lookup xa = some .local) (hxb : scope.names.lookup xb = some .local) (hab : ¬ xa = xb)
    (hst : ZSt z TI TO i1 i2 l1 l2 xs ys 0 s₂.heap) (F : Fr h₀ L s₂.heap m) (N : News h₀ L s₂.heap news)
    (hwr : ∀ b ∈ [z, TO, i1, i2], b ≠ L ∧ h₀.get? b = none ∧ ∀ p ∈ news, p.1 ≠ b)
    (turn : ∀ i a b C m₂ h tk E', xs[i]? = some a → ys[i]? = some b → h.Ns C m₂ → m₂ xa = some a → m₂ xb = some b →
      wpAny (model prog w) A (eval elt (compEnvC scope cl C env)) (fun y s' => y = G i ∧ ∃ tk', s' = { s₂ with heap := h, toks := tk' }) E' { s₂ with heap := h, toks := tk })
    (hRR : ∀ D C h tk m', Fr h₀ L h m → News h₀ L h ((D, lst ((List.range (min xs.size ys.size)).map G)) :: news) → Off1 D news → h.Ns C m' → h₀.get? C = none → C ≠ L → C ≠ D → (∀ p ∈ news, p.1 ≠ C) → RR (.ref D) C (.ok .next) { s₂ with heap := h, toks := tk }) :
    wpAny (model prog w) A (newList []) (fun acc s₃ => wpAny (model prog w) A (newFunctionEnv scope env.globals cl [] env.qual none .none (some env)) (fun cenv s₄ =>
      codeAny (model prog w) A (.compStart (.ListComp elt [⟨.Tuple [.Name xa pa, .Name xb pb] kk tp, iter, [], 0⟩] scope pos) 0 (.ref z) acc { cenv with scope := relabel scope env }) (RR acc cenv.locals) s₄) E s₃) E s₂ := by
  refine wpAny_newObj_type (wpAny_newFunctionEnv hcell (by intro y hy; simp at hy) (fun h₁ hns₁ hsb₁ => ?_) hkind)
  dsimp only at hns₁ hsb₁ ⊢
  generalize hH2 : s₂.heap.push { cls := .type "list", dict := none, data := .seq ([] : List Value).toArray } = H2 at hns₁ hsb₁ ⊢
  generalize hD : s₂.heap.objs.size = D at *
  have hC : H2.objs.size = D + 1 := by rw [← hH2, Heap.size_push, hD]
  generalize hCe : H2.objs.size = C at *
  have hDC : D ≠ C := by rw [hC]; exact Nat.ne_of_lt (Nat.lt_succ_self _)
  have ltD : ∀ {b o}, s₂.heap.get? b = some o → b < D := fun e => hD ▸ Heap.lt_size e
  have neD : ∀ {b}, b < D → b ≠ D ∧ b ≠ C := fun hb => ⟨Nat.ne_of_lt hb, by rw [hC]; exact Nat.ne_of_lt (Nat.lt_succ_of_lt hb)⟩
  have old : ∀ b o, s₂.heap.get? b = some o → h₁.get? b = some o := fun b o e => hsb₁.extBut b o (neD (ltD e)).2 (Heap.get?_push_of_some _ (hH2 ▸ Heap.get?_push_of_some _ e))
  have hacc : h₁.get? D = some (lst []) := hsb₁.extBut _ _ hDC (Heap.get?_push_of_some _ (by rw [← hH2, ← hD]; exact Heap.get?_push_size _ rfl))
  have fresh₀ : ∀ a, D ≤ a → h₀.get? a = none := fun a ha => by
    cases e : h₀.get? a with
    | none => rfl
    | some o' => exact absurd (ltD (F.keep a o' e)) (Nat.not_lt.mpr ha)
  have hD₀ : h₀.get? D = none := fresh₀ _ (Nat.le_refl _)
  have hC₀ : h₀.get? C = none := fresh₀ _ (by rw [hC]; exact Nat.le_succ _)
  have hLlt : L < D := hD ▸ F.ns.lt
  have hDL : D ≠ L := Ne.symm (neD hLlt).1
  have hCL : C ≠ L := Ne.symm (neD hLlt).2
  have W := WalksT.zip2 (prog := prog) (w := w) hh z TI TO i1 i2 l1 l2 AP xs ys
  have hfp : ∀ b ∈ [z, TI, TO, i1, i2, l1, l2], b < D := by
    obtain ⟨a1, a2, ⟨_, _, a3⟩, ⟨_, a4, _⟩, ⟨_, a5, _⟩, ⟨_, a6, _⟩, ⟨_, a7, _⟩⟩ := hst
    intro b hb
    simp only [List.mem_cons, List.not_mem_nil, or_false] at hb
    rcases hb with rfl | rfl | rfl | rfl | rfl | rfl | rfl
    · exact ltD a1
    · exact ltD a2
    · exact ltD a3
    · exact ltD a4
    · exact ltD a5
    · exact ltD a6
    · exact ltD a7
  have hwD : ∀ b ∈ [z, TO, i1, i2], b ≠ D ∧ b ≠ C := fun b hb => neD (hfp b (W.sub b hb))
  have offD : ∀ p ∈ news, p.1 ≠ D ∧ p.1 ≠ C := fun p hp => neD (ltD (N p hp).1)
  have loop : ∀ s₃ : Shared, s₃ = { s₂ with heap := h₁, toks := s₂.toks + ([] : List (Str × Value)).length } →
      codeAny (model prog w) A (.compLoop (.ListComp elt [⟨.Tuple [.Name xa pa, .Name xb pb] kk tp, iter, [], 0⟩] scope pos) 0 (.ref z) (.ref D) (compEnvC scope cl C env)) (RR (.ref D) C) s₃ := by
    rintro s₃ rfl
    refine kcp_loop
      (ZInv z TI TO i1 i2 l1 l2 xs ys h₀ L C D m G news s₂)
      ?_ (min xs.size ys.size + 1) (.mk h₁ _ 0 _ (Nat.zero_le _) rfl (W.frame _ _ _ hst fun b _ o e => old b o e) (F.keeps old) hns₁ fun p hp => ?_)
    · rintro k s' ⟨h', tk, i, m', hi, rfl, hst', F', hn', N'⟩
      by_cases hlt : i < min xs.size ys.size
      · refine W.item i _ _ _ hlt hst' fun T vals h₂ tk₂ hP hTs hT hMd hk₂ => ?_
        refine W.go _ _ _ i T _ _ _ hMd fun h₃ hst₃ hk₃ => ?_
        obtain ⟨x, y, hx, hy, rfl⟩ := hP
        have hTw := W.apart i T _ hMd
        have up₃ : ∀ c o, c ∉ [z, TO, i1, i2] → h'.get? c = some o → h₃.get? c = some o := fun c o hc e => hk₃ c o hc (hk₂ c o hc e)
        have hT₃ : h₃.IsTuple T #[x, y] := hT.at fun o e => hk₃ T o hTw e
        have hCw : C ∉ [z, TO, i1, i2] := fun hm => (hwD C hm).2 rfl
        have hDw : D ∉ [z, TO, i1, i2] := fun hm => (hwD D hm).1 rfl
        refine kcp_assign (env := compEnvC scope cl C env) hh hT₃ (lookup_relabel_local hxa) (lookup_relabel_local hxb) (by simp [compEnvC, relabel, hkind]) (hn'.at' fun o e => up₃ _ o hCw e) fun h₄ tk₄ hn₄ hs₄ => ?_
        have up : ∀ c o, c ∉ [z, TO, i1, i2] → c ≠ C → h'.get? c = some o → h₄.get? c = some o := fun c o h1 h2 e => hs₄ c o h2 (up₃ c o h1 e)
        have hst₄ : ZSt z TI TO i1 i2 l1 l2 xs ys (i + 1) h₄ := W.frame _ _ _ hst₃ fun b hb o e => hs₄ b o (neD (hfp b hb)).2 e
        refine wpAny_mono (turn i x y C _ h₄ tk₄ _ hx hy hn₄ (by simp [hab]) (by simp)) (fun v s₅ hv => ?_) fun _ _ e => e
        obtain ⟨rfl, tk₅, rfl⟩ := hv
        have zD : h₄.get? D = some (lst ((List.range i).map G)) := up D _ hDw hDC (N' _ List.mem_cons_self).1
        refine append_at (hsz := by show ((List.range i).map G).toArray.size ≤ sizeLine; rw [List.size_toArray, List.length_map, List.length_range]; exact Nat.le_trans (Nat.le_of_lt hlt) hsz) zD fun h₆ hs₆ hD₆ => ?_
        have up₆ : ∀ c o, c ∉ [z, TO, i1, i2] → c ≠ C → c ≠ D → h'.get? c = some o → h₆.get? c = some o := fun c o h1 h2 h3 e => hs₆.extBut c o h3 (up c o h1 h2 e)
        have notw : ∀ {c}, (∀ b ∈ [z, TO, i1, i2], c ≠ b) → c ∉ [z, TO, i1, i2] := fun hc hm => hc _ hm rfl
        refine ⟨min xs.size ys.size + 1 - (i + 1), zlt hlt, .mk h₆ tk₅ (i + 1) _ hlt rfl (W.frame _ _ _ hst₄ fun b hb o e => hs₆.extBut b o (neD (hfp b hb)).1 e) ?_ (hn₄.at' fun o e => hs₆.extBut C o (Ne.symm hDC) e) fun p hp => ?_⟩
        · refine ⟨F'.ns.at' fun o e => up₆ L o (notw fun b hb => Ne.symm (hwr b hb).1) (Ne.symm hCL) (Ne.symm hDL) e, fun c o e => ?_, F'.above⟩
          refine up₆ c o (notw fun b hb q => ?_) (fun q => ?_) (fun q => ?_) (F'.keep c o e)
          · rw [q, (hwr b hb).2.1] at e; cases e
          · rw [q, hC₀] at e; cases e
          · rw [q, hD₀] at e; cases e
        · rcases List.mem_cons.mp hp with rfl | hp
          · refine ⟨hD₆.trans ?_, hDL, hD₀⟩
            have e1 : (List.range (i + 1)).map G = (List.range i).map G ++ [G i] := by rw [List.range_succ, List.map_append]; rfl
            rw [e1]
            have e2 := lst_snoc ((List.range i).map G) (G i)
            exact congrArg some e2
          · have z' := N' p (List.mem_cons_of_mem _ hp)
            exact ⟨up₆ _ _ (notw fun b hb => (hwr b hb).2.2 p hp) (offD p hp).2 (offD p hp).1 z'.1, z'.2⟩
      · obtain rfl : i = min xs.size ys.size := Nat.le_antisymm hi (Nat.not_lt.mp hlt)
        refine W.done _ _ _ hst' fun h₂ tk₂ hk₂ => ?_
        have notw : ∀ {c}, (∀ b ∈ [z, TO, i1, i2], c ≠ b) → c ∉ [z, TO, i1, i2] := fun hc hm => hc _ hm rfl
        refine hRR D C h₂ tk₂ _ ⟨F'.ns.at' fun o e => hk₂ L o (notw fun b hb => Ne.symm (hwr b hb).1) e, fun c o e => hk₂ c o (notw fun b hb q => by rw [q, (hwr b hb).2.1] at e; cases e) (F'.keep c o e), F'.above⟩ (fun p hp => ?_)
          ?_ (hn'.at' fun o e => hk₂ _ o (fun hm => (hwD C hm).2 rfl) e) hC₀ hCL (Ne.symm hDC) fun p hp => (offD p hp).2
        · have z' := N' p hp
          refine ⟨hk₂ _ _ (notw fun b hb => ?_) z'.1, z'.2⟩
          rcases List.mem_cons.mp hp with rfl | hp
          · exact Ne.symm (hwD b hb).1
          · exact (hwr b hb).2.2 p hp
        · have go : ∀ l : List (Addr × Obj), (∀ p ∈ l, p.1 ≠ D) → Off1 D l := by
            intro l
            induction l with
            | nil => intro _; trivial
            | cons p r ih => intro hl; exact ⟨hl p (.head _), ih fun q hq => hl q (.tail _ hq)⟩
          exact go _ fun p hp => (offD p hp).1
    · rcases List.mem_cons.mp hp with rfl | hp
      · exact ⟨hacc, hDL, hD₀⟩
      · exact ⟨old _ _ (N p hp).1, (N p hp).2⟩
  have hst₁ : ZSt z TI TO i1 i2 l1 l2 xs ys 0 h₁ := W.frame _ _ _ hst fun b _ o e => old b o e
  have fin := codeAny_compStart_list (elt := elt) (rest := []) (scope := scope) (pos := pos) (loop _ rfl) (W.self 0 _ _ _ hst₁ (loop _ rfl))
  exact fin

inductive ZipSrc (prog : Program) (w : World) (A : Around) (h₀ : Heap) (L : Addr) (m : Str → Option Value) (env : Env) (elt : Expr) (xa xb y : Str) (scope : Scope) (cl : List (Str × Addr)) (Q : Flow → Shared → Prop) : Value → Shared → Prop
  | mk (z TI TO i1 i2 l1 l2 : Addr) (xs ys : Array Value) (G : Nat → Value) (news : List (Addr × Obj)) (s₁ : Shared) (hh : A.handled = none) (AP : ZipApart z TI TO i1 i2 l1 l2) (hsz : min xs.size ys.size ≤ sizeLine)
      (hst : ZSt z TI TO i1 i2 l1 l2 xs ys 0 s₁.heap) (F : Fr h₀ L s₁.heap m) (N : News h₀ L s₁.heap news) (hwr : ∀ b ∈ [z, TO, i1, i2], b ≠ L ∧ h₀.get? b = none ∧ ∀ p ∈ news, p.1 ≠ b)
      (turn : ∀ i a b C m₂ h tk E', xs[i]? = some a → ys[i]? = some b → h.Ns C m₂ → m₂ xa = some a → m₂ xb = some b →
        wpAny (model prog w) A (eval elt (compEnvC scope cl C env)) (fun y s' => y = G i ∧ ∃ tk', s' = { s₁ with heap := h, toks := tk' }) E' { s₁ with heap := h, toks := tk })
      (fin : ∀ D h tk, Fr h₀ L h (fun q => if q = y then some (.ref D) else m q) → News h₀ L h ((D, lst ((List.range (min xs.size ys.size)).map G)) :: news) → Off1 D news → Q .next { s₁ with heap := h, toks := tk }) :
      ZipSrc prog w A h₀ L m env elt xa xb y scope cl Q (.ref z) s₁

theorem Assign_zc {s : Shared} {elt iter : Expr} {xa xb y : Str} {pa pb tp py : Pos} {kk : Nat} {scope : Scope} {cl : List (Str × Addr)} {pos spos : Pos} {Q : Flow → Shared → Prop} (F₀ : Fr h₀ L s.heap m) (hLe : env.locals = L)
    (hsw : swapsWith (.ListComp elt [⟨.Tuple [.Name xa pa, .Name xb pb] kk tp, iter, [], 0⟩] scope pos) (some (.Name y py)) spos.line env = pure true)
    (hclos : closureFor scope env = pure cl) (hcell : ∀ z ∈ scope.names, z.2 ≠ .cell) (hkind : scope.kind = .function)
    (hnames : ∀ z ∈ scope.names, z.2 = .local → scope.names.lookup z.1 = some .local) (hxa : scope.names.lookup xa = some .local) (hxb : scope.names.lookup xb = some .local) (hab : ¬ xa = xb)
    (hy : env.kindOf y = some .local) (hp : (env.scope.kind == .class || (env.scope.kind == .module && env.locals != env.globals)) = false)
    (h : wpAny (model prog w) A (eval iter env) (ZipSrc prog w A h₀ L m env elt xa xb y scope cl Q) E s)
    (hs : ∀ x, foldedSetIterable iter env x = pure x := by intro _; rfl) :
    wpAny (model prog w) A (exec (.Assign [.Name y py] (.ListComp elt [⟨.Tuple [.Name xa pa, .Name xb pb] kk tp, iter, [], 0⟩] scope pos) spos) env) Q E s := by
  subst hLe
  rw [exec_Assign_Name_used _ _ _ _ hsw]
  refine wpAny_bind (wpAny_standAt (wpAny_bind ?_))
  show wpAny _ A (do let _ ← comprehension (.ListComp elt [⟨.Tuple [.Name xa pa, .Name xb pb] kk tp, iter, [], 0⟩] scope pos) scope env _ (newList []) false (eval iter env) (some (assign (.Name y py) env))) _ _ s
  refine wpAny_bind (wpAny_mono (wpAny_comprehension_free (use := some (assign (.Name y py) env)) (Q := fun _ s' => Q .next s') rfl hs hclos hkind hnames
    (wpAny_mono h (fun xv s₁ h₁ => ?_) fun _ _ e => e)) (fun _ s' hq => wpAny_pure (wpAny_pure hq)) fun _ _ e => e)
  obtain ⟨z, TI, TO, i1, i2, l1, l2, xs, ys, G, news, _, hh, AP, hsz, hst, F, N, hwr, turn, fin⟩ := h₁
  refine wpAny_pyIter_zip hst.1 ?_
  refine zc_block hh AP hsz hcell hkind hxa hxb hab hst F N hwr turn ?_
  intro D C h' tk m' F' N' o1 hn hC₀ hCL hCD offC
  show wpAny _ A (assign (.Name y py) env (.ref D)) _ _ _
  refine wpAny_assign_Name (wpAny_storeName_local hy F'.ns (fun h₂ hn₂ hs₂ => ?_) hp)
  have hL₀ : h₀.get? env.locals = none := Heap.get?_none_of_le F'.above
  have F₂ : Fr h₀ env.locals h₂ (fun z => if z = y then some (.ref D) else m z) := ⟨hn₂, fun b o e => hs₂.extBut b o (fun q => by rw [q, hL₀] at e; cases e) (F'.keep b o e), F'.above⟩
  refine ⟨m', hn.sameBut hs₂ hCL, fun h'' hs'' => fin D h'' _ (F₂.change hs'' hCL hC₀) (fun p hp => ?_) o1⟩
  have z' : h₂.get? p.1 = some p.2 := hs₂.extBut _ _ (N' p hp).2.1 (N' p hp).1
  refine ⟨hs''.extBut _ _ ?_ z', (N' p hp).2⟩
  rcases List.mem_cons.mp hp with rfl | hp
  · exact Ne.symm hCD
  · exact offC p hp

theorem zip_src {s : Shared} {elt : Expr} {xa xb y : Str} {scope : Scope} {cl : List (Str × Addr)} {Q : Flow → Shared → Prop} {l1 l2 : Addr} {vs1 vs2 : List Value} {n1 n2 : Nat} (G : Nat → Value) {news : List (Addr × Obj)} (hh : A.handled = none)
    (F : Fr h₀ L s.heap m) (N : News h₀ L s.heap news) (h1 : (l1, PySem.W.listOf vs1.toArray n1) ∈ news) (h2 : (l2, PySem.W.listOf vs2.toArray n2) ∈ news) (hsz : vs1.length ≤ 1000)
    (turn : ∀ i a b C m₂ h tk E', vs1[i]? = some a → vs2[i]? = some b → h.Ns C m₂ → m₂ xa = some a → m₂ xb = some b →
      wpAny (model prog w) A (eval elt (compEnvC scope cl C env)) (fun y s' => y = G i ∧ ∃ tk', s' = { s with heap := h, toks := tk' }) E' { s with heap := h, toks := tk })
    (fin : ∀ D h tk, Fr h₀ L h (fun q => if q = y then some (.ref D) else m q) → News h₀ L h ((D, lst ((List.range (min vs1.length vs2.length)).map G)) :: news) → Off1 D news → Q .next { s with heap := h, toks := tk }) :
    wpAny (model prog w) A (call (.type "zip") [.ref l1, .ref l2]) (ZipSrc prog w A h₀ L m env elt xa xb y scope cl Q) E s := by
  have hl1 : s.heap.IsList l1 vs1.toArray := ⟨_, (N _ h1).1, rfl, _, rfl⟩
  have hl2 : s.heap.IsList l2 vs2.toArray := ⟨_, (N _ h2).1, rfl, _, rfl⟩
  refine zip_rows F hl1 hl2 fun h' z TI TO i1 i2 AP hst F' hk b1 b2 b3 b4 hL => ?_
  have hN : News h₀ L h' news := fun p hp => ⟨hk _ _ (N p hp).1, (N p hp).2⟩
  refine .mk z TI TO i1 i2 l1 l2 _ _ G news _ hh AP ?_ hst F' hN ?_ (fun i a b C m₂ h tk E' ha hb => turn i a b C m₂ h tk E' (by simpa using ha) (by simpa using hb)) (fun D h tk => ?_)
  · simp only [List.size_toArray]
    rw [PySem.sizeLine_eq]
    omega
  · intro b hb
    have key : s.heap.objs.size ≤ b ∧ L < b := by
      simp only [List.mem_cons, List.not_mem_nil, or_false] at hb
      rcases hb with rfl | rfl | rfl | rfl
      · exact ⟨b1, hL.1⟩
      · exact ⟨b2, hL.2.1⟩
      · exact ⟨b3, hL.2.2.1⟩
      · exact ⟨b4, hL.2.2.2⟩
    refine ⟨Nat.ne_of_gt key.2, ?_, fun p hp => Nat.ne_of_lt (Nat.lt_of_lt_of_le (Heap.lt_size (N p hp).1) key.1)⟩
    cases e : h₀.get? b with
    | none => rfl
    | some o' => exact absurd (Heap.lt_size (F.keep b o' e)) (Nat.not_lt.mpr key.1)
  · have := fin D h tk
    simpa only [List.size_toArray] using this

theorem zc_le {s : Shared} {pos : Pos} {la lb : Str} {pa pb : Pos} {scope : Scope} {cl : List (Str × Addr)} {C : Addr} {m₂ : Str → Option Value} {a b : Int} {ta tb : Tok} {Q : Value → Shared → Prop} (hn : s.heap.Ns C m₂) (ha : m₂ la = some (.int a ta)) (hb : m₂ lb = some (.int b tb))
    (h : Q (.bool (decide (a ≤ b))) s)
    (hk : (compEnvC scope cl C env).scope.kind = .function := by rfl) (h1 : (compEnvC scope cl C env).kindOf la = some .local := by rfl) (h2 : (compEnvC scope cl C env).kindOf lb = some .local := by rfl) (d1 : (la == ("__debug__" : Str)) = false := by decide) (d2 : (lb == ("__debug__" : Str)) = false := by decide) :
    wpAny (model prog w) A (eval (.Compare (.Name la pa) [.LtE] [.Name lb pb] pos) (compEnvC scope cl C env)) Q E s :=
  wpAny_Compare1 (ldVarK (F := hn) (hv := ha) (ldVarK (F := hn) (hv := hb) (PyProof.Rows.le_int h) hk h2 d2) hk h1 d1)
theorem zc_ge {s : Shared} {pos : Pos} {la lb : Str} {pa pb : Pos} {scope : Scope} {cl : List (Str × Addr)} {C : Addr} {m₂ : Str → Option Value} {a b : Int} {ta tb : Tok} {Q : Value → Shared → Prop} (hn : s.heap.Ns C m₂) (ha : m₂ la = some (.int a ta)) (hb : m₂ lb = some (.int b tb))
    (h : Q (.bool (decide (b ≤ a))) s)
    (hk : (compEnvC scope cl C env).scope.kind = .function := by rfl) (h1 : (compEnvC scope cl C env).kindOf la = some .local := by rfl) (h2 : (compEnvC scope cl C env).kindOf lb = some .local := by rfl) (d1 : (la == ("__debug__" : Str)) = false := by decide) (d2 : (lb == ("__debug__" : Str)) = false := by decide) :
    wpAny (model prog w) A (eval (.Compare (.Name la pa) [.GtE] [.Name lb pb] pos) (compEnvC scope cl C env)) Q E s :=
  wpAny_Compare1 (ldVarK (F := hn) (hv := ha) (ldVarK (F := hn) (hv := hb) (PyProof.Rows.ge_int h) hk h2 d2) hk h1 d1)
end
end Mine
end
section
open PySem PySem.W PySem.Calls PyProof.Rows
namespace Mine

structure ComesOk (level : Int) (n : Nat) (ol : List Int) : Prop where
  len : ol.length = n
  two : 2 ≤ n
  small : n ≤ 200
  last : ol.getD ((-1 : Int) + (ol.length : Nat)).toNat 0 = level
  way : (∀ i, i + 1 < n → ol.getD i 0 ≤ ol.getD (i + 1) 0) ∨ (∀ i, i + 1 < n → ol.getD (i + 1) 0 ≤ ol.getD i 0)

theorem outs_get {sh level p : Int} {n i : Nat} (h : i < n) : (avgOuts sh level p n).getD i 0 = avgVal sh (avgIter sh level p (i + 1)) := by
  simp [avgOuts, List.getD, h]

theorem comesOk {sh level p : Int} {n : Nat} (h0 : 0 ≤ sh) (h1 : sh < 4) (hp : 0 ≤ p) (hp' : p < 10) (hl : 0 ≤ level) (hl' : level < 10) (hn : (n : Int) = 10 * 2 ^ sh.toNat + 2) : ComesOk level n (avgOuts sh level p n) := by
  have hc := pow_cases h0 h1
  have hb := avgIter_bounds h0 h1 hp hp' hl hl'
  have two : 2 ≤ n := by omega
  have lastEq : ∀ {v}, avgVal sh (avgIter sh level p n) = v → (avgOuts sh level p n).getD ((-1 : Int) + ((avgOuts sh level p n).length : Nat)).toNat 0 = v := by
    intro v hv
    rw [avgOuts_length]
    have e : ((-1 : Int) + (n : Nat)).toNat = n - 1 := by omega
    rw [e, outs_get (by omega), show n - 1 + 1 = n by omega]
    exact hv
  rcases Int.le_total (avgVal sh p) level with hle | hle
  · -- from below
    have inv : ∀ i, avgVal sh (avgIter sh level p i) ≤ level ∧ ((i : Int) ≤ avgIter sh level p i ∨ avgVal sh (avgIter sh level p i) = level) ∧ avgIter sh level p i ≤ avgIter sh level p (i + 1) := by
      intro i
      induction i with
      | zero =>
        have := avgStep_up (level := level) h0 h1 hp hle
        exact ⟨hle, .inl hp, this.2.1⟩
      | succ i ih =>
        obtain ⟨a1, a2, a3⟩ := ih
        have s1 := avgStep_up (level := level) h0 h1 (hb i).1 a1
        have b1 : avgVal sh (avgIter sh level p (i + 1)) ≤ level := s1.1
        have s2 := avgStep_up (level := level) h0 h1 (hb (i + 1)).1 b1
        refine ⟨b1, ?_, s2.2.1⟩
        by_cases hq : avgVal sh (avgIter sh level p i) < level
        · have lt : avgIter sh level p i < avgIter sh level p (i + 1) := s1.2.2 hq
          rcases a2 with a2 | a2
          · left; omega
          · omega
        · right
          have := avgVal_mono h0 h1 a3
          omega
    refine ⟨avgOuts_length .., two, by omega, lastEq ?_, .inl fun i hi => ?_⟩
    · obtain ⟨a1, a2, _⟩ := inv n
      rcases a2 with a2 | a2
      · exact absurd (hb n).2 (by omega)
      · exact a2
    · rw [outs_get (by omega), outs_get hi]
      exact avgVal_mono h0 h1 (inv (i + 1)).2.2
  · -- from above
    have inv : ∀ i, level ≤ avgVal sh (avgIter sh level p i) ∧ (avgIter sh level p i ≤ 9 - (i : Int) ∨ avgVal sh (avgIter sh level p i) = level) ∧ avgIter sh level p (i + 1) ≤ avgIter sh level p i := by
      intro i
      induction i with
      | zero =>
        have := avgStep_down (level := level) h0 h1 hp hle
        refine ⟨hle, .inl ?_, this.2.1⟩
        show p ≤ 9 - ((0 : Nat) : Int)
        omega
      | succ i ih =>
        obtain ⟨a1, a2, a3⟩ := ih
        have s1 := avgStep_down (level := level) h0 h1 (hb i).1 a1
        have b1 : level ≤ avgVal sh (avgIter sh level p (i + 1)) := s1.1
        have s2 := avgStep_down (level := level) h0 h1 (hb (i + 1)).1 b1
        refine ⟨b1, ?_, s2.2.1⟩
        by_cases hq : level < avgVal sh (avgIter sh level p i)
        · have lt : avgIter sh level p (i + 1) < avgIter sh level p i := s1.2.2 hq
          rcases a2 with a2 | a2
          · left; omega
          · omega
        · right
          have := avgVal_mono h0 h1 a3
          omega
    refine ⟨avgOuts_length .., two, by omega, lastEq ?_, .inr fun i hi => ?_⟩
    · obtain ⟨a1, a2, _⟩ := inv n
      rcases a2 with a2 | a2
      · have := (hb n).1
        omega
      · exact a2
    · rw [outs_get hi, outs_get (show i < n by omega)]
      exact avgVal_mono h0 h1 (inv (i + 1)).2.2
end Mine
end
section
open PySem PySem.W PySem.Spec PySem.Calls PyProof.Rows PyProof.Rows.LCg
set_option maxRecDepth 100000
namespace Mine

noncomputable def leAt (ol : List Int) (i : Nat) : Bool := decide (ol.getD i 0 ≤ ol.getD (i + 1) 0)
noncomputable def geAt (ol : List Int) (i : Nat) : Bool := decide (ol.getD (i + 1) 0 ≤ ol.getD i 0)

theorem comes_end {level : Int} {n : Nat} {ol : List Int} (h : ComesOk level n ol) {k : Nat} (hk : k + 1 ≤ n) : (List.range k).all (leAt ol) = true ∨ (List.range k).all (geAt ol) = true := by
  rcases h.way with q | q
  · left
    rw [List.all_eq_true]
    intro i hi
    have := List.mem_range.mp hi
    exact decide_eq_true (q i (by omega))
  · right
    rw [List.all_eq_true]
    intro i hi
    have := List.mem_range.mp hi
    exact decide_eq_true (q i (by omega))

theorem ints_at {vs : List Value} {ns : List Int} (h : IntsAre vs ns) {i : Nat} {a : Value} (e : vs[i]? = some a) : ∃ t, a = .int (ns.getD i 0) t := by
  have hlt : i < ns.length := by
    rw [← h.length]
    exact (List.getElem?_eq_some_iff.mp e).1
  obtain ⟨t, ht⟩ := h.get i (ns[i]'hlt) (List.getElem?_eq_getElem hlt)
  refine ⟨t, ?_⟩
  rw [ht] at e
  rw [List.getD_eq_getElem?_getD, List.getElem?_eq_getElem hlt]
  exact (Option.some.inj e).symm
theorem drop_one (ol : List Int) (i : Nat) : (ol.drop 1).getD i 0 = ol.getD (i + 1) 0 := by
  simp [List.getD_eq_getElem?_getD, List.getElem?_drop, Nat.add_comm]

section
variable {prog : Program} {w : World} {A : Around} {E : Value → Shared → Prop} {env : Env} {s : Shared}
theorem zc_turn_le {vs ws : List Value} {ol : List Int} {pos pa pb : Pos} {la lb : Str} {scope : Scope} {cl : List (Str × Addr)} (hv : IntsAre vs ol) (hw : IntsAre ws (ol.drop 1))
    (hk : ∀ C, (compEnvC scope cl C env).scope.kind = .function) (h1 : ∀ C, (compEnvC scope cl C env).kindOf la = some .local) (h2 : ∀ C, (compEnvC scope cl C env).kindOf lb = some .local) (d1 : (la == ("__debug__" : Str)) = false) (d2 : (lb == ("__debug__" : Str)) = false) :
    ∀ i a b C m₂ h tk E', vs[i]? = some a → ws[i]? = some b → Heap.Ns h C m₂ → m₂ la = some a → m₂ lb = some b →
      wpAny (model prog w) A (eval (.Compare (.Name la pa) [.LtE] [.Name lb pb] pos) (compEnvC scope cl C env)) (fun y s' => y = (fun i => Value.bool (leAt ol i)) i ∧ ∃ tk', s' = { s with heap := h, toks := tk' }) E' { s with heap := h, toks := tk } := by
  intro i a b C m₂ h tk E' ha hb hn x1 x2
  obtain ⟨t1, rfl⟩ := ints_at hv ha
  obtain ⟨t2, rfl⟩ := ints_at hw hb
  rw [drop_one] at x2
  exact zc_le (s := { s with heap := h, toks := tk }) hn x1 x2 ⟨rfl, tk, rfl⟩ (hk C) (h1 C) (h2 C) d1 d2
theorem zc_turn_ge {vs ws : List Value} {ol : List Int} {pos pa pb : Pos} {la lb : Str} {scope : Scope} {cl : List (Str × Addr)} (hv : IntsAre vs ol) (hw : IntsAre ws (ol.drop 1))
    (hk : ∀ C, (compEnvC scope cl C env).scope.kind = .function) (h1 : ∀ C, (compEnvC scope cl C env).kindOf la = some .local) (h2 : ∀ C, (compEnvC scope cl C env).kindOf lb = some .local) (d1 : (la == ("__debug__" : Str)) = false) (d2 : (lb == ("__debug__" : Str)) = false) :
    ∀ i a b C m₂ h tk E', vs[i]? = some a → ws[i]? = some b → Heap.Ns h C m₂ → m₂ la = some a → m₂ lb = some b →
      wpAny (model prog w) A (eval (.Compare (.Name la pa) [.GtE] [.Name lb pb] pos) (compEnvC scope cl C env)) (fun y s' => y = (fun i => Value.bool (geAt ol i)) i ∧ ∃ tk', s' = { s with heap := h, toks := tk' }) E' { s with heap := h, toks := tk } := by
  intro i a b C m₂ h tk E' ha hb hn x1 x2
  obtain ⟨t1, rfl⟩ := ints_at hv ha
  obtain ⟨t2, rfl⟩ := ints_at hw hb
  rw [drop_one] at x2
  exact zc_ge (s := { s with heap := h, toks := tk }) hn x1 x2 ⟨rfl, tk, rfl⟩ (hk C) (h1 C) (h2 C) d1 d2

noncomputable def isF : Value → Bool
  | .bool b => b == false
  | _ => false
theorem notin_bools {l : Addr} {k nn : Nat} {g : Nat → Bool} {h₀ : Heap} {L : Addr} {news : List (Addr × Obj)} {Q : Value → Shared → Prop} (N : News h₀ L s.heap news) (hm : (l, PySem.W.listOf ((List.range k).map fun i => Value.bool (g i)).toArray nn) ∈ news)
    (h : Q (.bool ((List.range k).all g)) s) : wpAny (model prog w) A (compareOp .NotIn (.bool false) (.ref l)) Q E s := by
  have hl : s.heap.IsList l ((List.range k).map fun i => Value.bool (g i)).toArray := ⟨_, (N _ hm).1, rfl, _, rfl⟩
  refine SeqInW.notIn_listW isF (fun y hy => ?_) hl ?_
  · simp only [List.mem_toArray, List.mem_map] at hy
    obtain ⟨i, _, rfl⟩ := hy
    intro prog w A E s Q h
    exact SeqAt.EqAt.bool_bool (A := A) (s := s) (g i) false prog w E Q h
  · have e : (!(((List.range k).map fun i => Value.bool (g i)).toArray.any isF)) = (List.range k).all g := by
      rw [List.any_toArray, List.any_map]
      induction (List.range k) with
      | nil => rfl
      | cons a r ih =>
        simp only [List.any_cons, List.all_cons, Bool.not_or, ih]
        congr 1
        show (!(g a == false)) = g a
        cases g a <;> rfl
    rw [e]
    exact h
end
end Mine
end
section
open PySem PySem.W PySem.Spec PySem.Calls PyProof.Rows
set_option maxRecDepth 100000
namespace Mine

theorem shareF_bounds {low high most level : Int} (h1 : low < high) (h3 : 0 ≤ most) (h4 : most ≤ 10000) : 0 ≤ shareF low high most level ∧ shareF low high most level ≤ 10000 := by
  unfold shareF
  split
  · omega
  · split
    · omega
    · have := share_q (low := low) (high := high) (most := most) (level := level) (by omega) (by omega) h3
      omega
theorem shareF_mono {low high most a b : Int} (h1 : low < high) (h3 : 0 ≤ most) (h4 : most ≤ 10000) (h : a ≤ b) : shareF low high most a ≤ shareF low high most b := by
  have hb := shareF_bounds (low := low) (high := high) (most := most) (level := b) h1 h3 h4
  have ha := shareF_bounds (low := low) (high := high) (most := most) (level := a) h1 h3 h4
  unfold shareF at *
  by_cases c1 : a ≤ low
  · rw [if_pos c1]; exact hb.1
  · rw [if_neg c1] at ha ⊢
    rw [if_neg (show ¬ b ≤ low by omega)] at hb ⊢
    by_cases c2 : b ≥ high
    · rw [if_pos c2]; exact ha.2
    · rw [if_neg c2, if_neg (show ¬ a ≥ high by omega)]
      rw [Int.fdiv_eq_ediv_of_nonneg _ (by omega), Int.fdiv_eq_ediv_of_nonneg _ (by omega)]
      exact Int.ediv_le_ediv (by omega) (Int.mul_le_mul_of_nonneg_left (by omega) h3)

section
variable {prog : Program} {w : World} {A : Around} {E : Value → Shared → Prop} {s : Shared} {env : Env} {h₀ : Heap} {target : Expr} {body : List Stmt} {Q : Flow → Shared → Prop}
/-- a loop over a made list, by what holds of its state -/
theorem unrEnd_mono {h₀ : Heap} {L : Addr} {s₁ s₂ : Shared} {its : List (Addr × Obj)} {P P' : (Str → Option Value) → List (Addr × Obj) → Prop} (hP : ∀ m n, P m n → P' m n) (h : UnrEndW h₀ L s₁ its P s₂) : UnrEndW h₀ L s₁ its P' s₂ :=
  Exists.imp (fun _ => Exists.imp fun _ => Exists.imp fun m' => Exists.imp fun n' => And.imp_right (And.imp_right (And.imp_right (And.imp_right (hP m' n'))))) h
theorem unrPost_mono {h₀ : Heap} {L : Addr} {s₁ s₂ : Shared} {its : List (Addr × Obj)} {P P' : (Str → Option Value) → List (Addr × Obj) → Prop} (hP : ∀ m n, P m n → P' m n) {Q : Flow → Shared → Prop} {f : Flow} (h : UnrPostW h₀ L s₁ its P Q f s₂) : UnrPostW h₀ L s₁ its P' Q f s₂ := by
  cases f with
  | ret v => exact h
  | brk => exact h
  | next => exact unrEnd_mono hP h
  | cont => exact unrEnd_mono hP h
theorem items_state {σ : Type} (M : σ → Str → Option Value) (Led : σ → List (Addr × Obj)) (J : Nat → σ → Prop) {vs : List Value} {ws : List (Addr × String)} {keep : List (Addr × Obj)}
    (hkeep : ∀ c, SubL keep (Led c))
    (turn : ∀ i v c h tk, vs[i]? = some v → J i c → Fr h₀ env.locals h (M c) → AllObj ws (fun its => News h₀ env.locals h (its ++ Led c) →
      wpAny (model prog w) A (assign target env v) (fun _ s₂ => wpAny (model prog w) A (execs body env) (UnrPostW h₀ env.locals { s with heap := h, toks := tk } its (fun m' n' => ∃ c', m' = M c' ∧ n' = Led c' ∧ J (i + 1) c') Q) E s₂) E { s with heap := h, toks := tk }))
    (done : ∀ c h tk, J vs.length c → Fr h₀ env.locals h (M c) → News h₀ env.locals h (Led c) → Q .next { s with heap := h, toks := tk })
    (c₀ : σ) (hj : J 0 c₀) : ItemsRest prog w A E h₀ env target body Q s ws keep (vs.map .val) (M c₀) (Led c₀) := by
  have post : ∀ {s₁ : Shared} {its : List (Addr × Obj)} {P P' : (Str → Option Value) → List (Addr × Obj) → Prop}, (∀ m n, P m n → P' m n) → ∀ f s₂, UnrPostW h₀ env.locals s₁ its P Q f s₂ → UnrPostW h₀ env.locals s₁ its P' Q f s₂ := by
    exact fun hP f s₂ h => unrPost_mono hP h
  have all : ∀ {ws : List (Addr × String)} {k k' : List (Addr × Obj) → Prop}, (∀ its, k its → k' its) → AllObj ws k → AllObj ws k' := by
    intro ws
    induction ws with
    | nil => intro k k' hk h; exact hk _ h
    | cons a r ih => intro k k' hk h o ho; exact ih (fun its => hk _) (h o ho)
  have key : ∀ (j i : Nat) (c : σ), i + j = vs.length → J i c → ItemsRest prog w A E h₀ env target body Q s ws keep ((vs.drop i).map .val) (M c) (Led c) := by
    intro j
    induction j with
    | zero =>
      intro i c hi hJ
      have e : i = vs.length := by omega
      subst e
      rw [List.drop_length]
      exact fun h tk F N => done c h tk hJ F N
    | succ j ih =>
      intro i c hi hJ
      have hlt : i < vs.length := by omega
      rw [List.drop_eq_getElem_cons hlt]
      intro v h tk hv F
      have hv' : v = vs[i] := hv
      refine all (fun its hk N => ?_) (turn i v c h tk (by rw [hv']; exact List.getElem?_eq_getElem hlt) hJ F)
      refine wpAny_mono (hk N) (fun _ s₂ h₂ => wpAny_mono h₂ (fun f s₃ p => ?_) fun _ _ e => e) fun _ _ e => e
      refine post (fun m n hq => ?_) f s₃ p
      obtain ⟨c', rfl, rfl, hJ'⟩ := hq
      exact ⟨hkeep c', ih (i + 1) c' (by omega) hJ'⟩
  exact key vs.length 0 c₀ (by omega) hj
end

end Mine
end
section
open PySem PySem.W PySem.Calls PyProof.Rows
set_option maxRecDepth 100000
set_option linter.unusedVariables false
namespace Mine
noncomputable abbrev cuM (m₀ : Str → Option Value) (l : Int) (tl : Tok) (u : Option Value) : Str → Option Value := fun y => if y = Str.ofString "last" then some (.int l tl) else if y = Str.ofString "share" then u else m₀ y
structure CuS where
  oc : Obj
  l : Int
  tl : Tok
  u : Option Value
structure CuJ (low high most : Int) (ns : List Int) (i : Nat) (c : CuS) : Prop where
  cell : ∃ x, c.oc.data = .cell x
  lo : 0 ≤ c.l
  up : ∀ (j : Nat) (a : Int), i ≤ j → ns[j]? = some a → c.l ≤ shareF low high most a
inductive CuEnd (m₀ : Str → Option Value) (lc : Addr) (R : List (Addr × Obj)) (v : Int) : (Str → Option Value) → List (Addr × Obj) → Prop
  | mk (oc' : Obj) (x' : Option Value) (tl' : Tok) (u' : Option Value) (m' : Str → Option Value) (hx : oc'.data = .cell x') (hm : m' = cuM m₀ v tl' u') : CuEnd m₀ lc R v m' ((lc, oc') :: R)
section
variable {prog : Program} {w : World} {A : Around} {E : Value → Shared → Prop} {s : Shared} {env : Env} {h₀ : Heap} {target : Expr} {body : List Stmt} {Q : Flow → Shared → Prop}
theorem curve_items {I lc la : Addr} {vs : List Value} {ns : List Int} {nn : Nat} {m₀ : Str → Option Value} {t0 : Tok} {o : Obj} {R : List (Addr × Obj)} (low high most : Int) (x0 : Option Value)
    (h1 : low < high) (h3 : 0 ≤ most) (h4 : most ≤ 10000) (hi : IntsAre vs ns) (hs : ∀ (i j : Nat) (a b : Int), i ≤ j → ns[i]? = some a → ns[j]? = some b → a ≤ b) (hx0 : o.data = .cell x0) (hla : ∀ oc, (la, listOf vs.toArray nn) ∈ (lc, oc) :: R)
    (turn : ∀ (oc oI : Obj) (x : Option Value) (a : Int) (t : Tok) (l : Int) (tl : Tok) (u : Option Value) h tk, a ∈ ns → 0 ≤ l → l ≤ shareF low high most a → oc.data = .cell x → oI.cls = .type "list_iterator" → Fr h₀ env.locals h (cuM m₀ l tl u) → News h₀ env.locals h ((I, oI) :: (lc, oc) :: R) →
      wpAny (model prog w) A (assign target env (.int a t)) (fun _ s₂ => wpAny (model prog w) A (execs body env) (UnrPostW h₀ env.locals { s with heap := h, toks := tk } [(I, oI)] (CuEnd m₀ lc R (shareF low high most a)) Q) E s₂) E { s with heap := h, toks := tk })
    (done : ∀ (oc : Obj) (x : Option Value) (l : Int) (tl : Tok) (u : Option Value) h tk, oc.data = .cell x → Fr h₀ env.locals h (cuM m₀ l tl u) → News h₀ env.locals h ((lc, oc) :: R) → Q .next { s with heap := h, toks := tk }) :
    ItemsRest prog w A E h₀ env target body Q s [(I, "list_iterator")] [(la, listOf vs.toArray nn)] (vs.map .val) (fun y => if y = Str.ofString "last" then some (.int 0 t0) else m₀ y) ((lc, o) :: R) := by
  have hm : (fun y => if y = Str.ofString "last" then some (.int 0 t0) else m₀ y) = cuM m₀ 0 t0 (m₀ (Str.ofString "share")) := by
    funext y
    unfold cuM
    by_cases c1 : y = Str.ofString "last"
    · simp [c1]
    · by_cases c2 : y = Str.ofString "share"
      · rw [if_neg c1, if_neg c1, if_pos c2, c2]
      · rw [if_neg c1, if_neg c1, if_neg c2]
  rw [hm]
  refine items_state (keep := [(la, listOf vs.toArray nn)]) (σ := CuS) (fun c => cuM m₀ c.l c.tl c.u) (fun c => (lc, c.oc) :: R) (CuJ low high most ns) (fun c => And.intro (hla c.oc) True.intro) ?_ ?_ ⟨o, 0, t0, m₀ (Str.ofString "share")⟩ ⟨⟨x0, hx0⟩, Int.le_refl 0, fun j a _ _ => (shareF_bounds h1 h3 h4).1⟩
  · rintro i v c h tk hv ⟨⟨x, hx⟩, hl, hle⟩ F oI hI N
    have hlt : i < ns.length := by rw [← hi.length]; exact (List.getElem?_eq_some_iff.mp hv).1
    obtain ⟨t, ht⟩ := hi.get i (ns[i]'hlt) (List.getElem?_eq_getElem hlt)
    have ev : v = .int (ns[i]'hlt) t := by rw [ht] at hv; exact (Option.some.inj hv).symm
    subst ev
    refine wpAny_mono (turn c.oc oI x _ t c.l c.tl c.u h tk (List.getElem_mem hlt) hl (hle i _ (Nat.le_refl _) (List.getElem?_eq_getElem hlt)) hx hI F N) (fun _ s₂ h₂ => wpAny_mono h₂ (fun f s₃ p => unrPost_mono (fun m' n' hE => ?_) p) fun _ _ e => e) fun _ _ e => e
    cases hE with
    | mk oc' x' tl' u' _ b1 b2 => exact ⟨⟨oc', shareF low high most (ns[i]'hlt), tl', u'⟩, b2, rfl, ⟨x', b1⟩, (shareF_bounds h1 h3 h4).1, fun j a hj ha => shareF_mono h1 h3 h4 (hs i j _ _ (Nat.le_of_succ_le hj) (List.getElem?_eq_getElem hlt) ha)⟩
  · rintro c h tk ⟨⟨x, hx⟩, _, _⟩ F N
    exact done c.oc x c.l c.tl c.u h tk hx F N
end


end Mine
end
section
open PySem PySem.W PySem.Spec PySem.Calls PyProof.Rows
set_option maxRecDepth 100000
namespace Mine
section
variable {prog : Program} {w : World} {A : Around} {E : Value → Shared → Prop} {s : Shared} {h₀ : Heap} {L a b : Addr} {news : List (Addr × Obj)} {Q : Value → Shared → Prop}
theorem ne_two {x y : Bool} {ka kb : Nat} (N : News h₀ L s.heap news) (ma : (a, listOf #[.bool x, .bool y] ka) ∈ news) (mb : (b, listOf #[.bool x, .bool y] kb) ∈ news) (hu : A.units + 64 < cLine)
    (h : Q (.bool false) s) : wpAny (model prog w) A (compareOp .NotEq (.ref a) (.ref b)) Q E s := by
  have rr : ∀ c k, (c, listOf #[.bool x, .bool y] k) ∈ news → ∃ as, Reads s.heap (.ref c) (.list [.bool x, .bool y]) as := fun c k hm =>
    ⟨_, reads_list_at (N.get hm) rfl rfl (ReadsAll.cons (.bool x) (.cons (.bool y) .nil))⟩
  obtain ⟨as, ra⟩ := rr a ka ma
  obtain ⟨bs, rb⟩ := rr b kb mb
  refine ne_dataH ra rb ?_ ?_ hu ?_
  · cases x <;> cases y <;> rfl
  · cases x <;> cases y <;> rfl
  · have e : PyData.eqv (.list [.bool x, .bool y]) (.list [.bool x, .bool y]) = true := by cases x <;> cases y <;> rfl
    rw [e]
    exact h
end
end Mine
end
section
open PySem PySem.W PySem.Spec PySem.Calls PyProof.Rows PyProof.V
set_option maxRecDepth 100000
namespace Mine
section
variable {prog : Program} {w : World} {A : Around} {E : Value → Shared → Prop} {s : Shared} {env : Env} {h₀ : Heap} {x : Str} {body : List Stmt} {Q : Flow → Shared → Prop}
/-- a loop over a range, by what holds of its state -/
theorem range_state {σ : Type} {r : Addr} {a₀ b₀ : Int} {t₀ u₀ v₀ : Tok} {n : Nat} (M : σ → Str → Option Value) (Led : σ → List (Addr × Obj)) (J : Nat → σ → Prop) (c₀ : σ) {m₀ : Str → Option Value} {news : List (Addr × Obj)}
    (hh : A.handled = none) (hr : IsRange s.heap r a₀ b₀ 1 t₀ u₀ v₀) (hsmall : Builtin.Range.small a₀ b₀ 1 = true) (hsz : Builtin.Range.rangeSize a₀ b₀ 1 = (n : Int)) (F : Fr h₀ env.locals s.heap m₀) (N : News h₀ env.locals s.heap news) (hm : m₀ = M c₀) (hn : ∀ p ∈ Led c₀, p ∈ news) (hj : J 0 c₀)
    (turn : ∀ i c t h tk own, i < n → J i c → OwnOff own ((Led c).map (·.1)) → Fr h₀ env.locals h (fun y => if y = x then some (.int (a₀ + (i : Int)) t) else M c y) → News h₀ env.locals h (Led c ++ own) →
      wpAny (model prog w) A (execs body env) (InvPostG h₀ env.locals (fun m' nx => ∃ c', m' = M c' ∧ nx = Led c' ∧ J (i + 1) c') own { s with heap := h, toks := tk } Q) E { s with heap := h, toks := tk })
    (done : ∀ c h tk, J n c → Fr h₀ env.locals h (M c) → News h₀ env.locals h (Led c) → Q .next { s with heap := h, toks := tk }) :
    wpAny (model prog w) A (pyIter (.ref r)) (fun it s₂ => LoopAtV prog w A h₀ env x body Q E it s₂) E s := by
  subst hm
  refine wpAny_pyIter_range hr hsmall ?_
  have W : Walks prog w A s.heap.objs.size [s.heap.objs.size] [s.heap.objs.size] n (fun i v => i < n ∧ ∃ t, v = .int (a₀ + i * 1) t)
      (fun i h => IsRangeIter h s.heap.objs.size (a₀ + (i : Nat) * 1) ((n : Int) - (i : Nat)) 1) := (Walks.range hh _ a₀ 1 n).bound
  refine kdr_loop (fun i m nx => ∃ c, m = M c ∧ nx = Led c ∧ J i c) W (fun _ h => h) (fun _ h => h) ?_ ?_ ?_ ?_ (by show IsRangeIter _ _ _ _ _; rw [hsz]; simpa using Heap.get?_push_size _ rfl) (F.push _) (fun p hp => ⟨Heap.get?_push_of_some _ (N p (hn p hp)).1, (N p (hn p hp)).2⟩) ⟨c₀, rfl, rfl, hj⟩ ?_ ?_
  · intro i h hi b hb
    rw [List.mem_singleton.mp hb]
    exact ⟨_, hi⟩
  · intro hm
    exact absurd F.ns.lt ((List.mem_singleton.mp hm) ▸ Nat.lt_irrefl _)
  · intro b hb
    rw [List.mem_singleton.mp hb]
    exact next_is_new F
  · intro p hp hI
    exact absurd (Heap.lt_size (N p (hn p hp)).1) ((List.mem_singleton.mp hI) ▸ Nat.lt_irrefl _)
  · rintro i v m₁ nx h tk own hi ⟨_, t, rfl⟩ hoff ⟨c, rfl, rfl, hJ⟩ F₁ N₁
    have e1 : a₀ + (i : Int) * 1 = a₀ + (i : Int) := by omega
    rw [e1] at F₁
    exact turn i c t h tk own hi hJ hoff F₁ N₁
  · rintro m₁ nx h tk ⟨c, rfl, rfl, hJ⟩ F₁ N₁
    exact done c h tk hJ F₁ N₁
end
end Mine
end
section
open PySem PySem.W PySem.Spec PySem.Calls PyProof.Rows PyProof.V
set_option maxRecDepth 100000
namespace Mine
noncomputable abbrev tupObj (s n : Int) (t u : Tok) (k : Nat) : Obj := { cls := .type "tuple", data := .seq #[.int s t, .int n u] k }
inductive Tups (Z : List (Addr × Obj)) : List Value → List (Int × Int) → Prop
  | nil : Tups Z [] []
  | cons {a : Addr} {s n : Int} {t u : Tok} {k : Nat} {vs : List Value} {xs : List (Int × Int)} (hm : (a, tupObj s n t u k) ∈ Z) (r : Tups Z vs xs) : Tups Z (.ref a :: vs) ((s, n) :: xs)
theorem Tups.mono {Z Z' : List (Addr × Obj)} (h : ∀ p ∈ Z, p ∈ Z') {vs : List Value} {xs : List (Int × Int)} (T : Tups Z vs xs) : Tups Z' vs xs := by
  induction T with
  | nil => exact .nil
  | cons hm _ ih => exact .cons (h _ hm) ih
theorem Tups.length {Z : List (Addr × Obj)} {vs : List Value} {xs : List (Int × Int)} (T : Tups Z vs xs) : vs.length = xs.length := by
  induction T with
  | nil => rfl
  | cons _ _ ih => simp [ih]
theorem Tups.append {Z : List (Addr × Obj)} {vs : List Value} {xs : List (Int × Int)} (T : Tups Z vs xs) {a : Addr} {s n : Int} {t u : Tok} {k : Nat} (hm : (a, tupObj s n t u k) ∈ Z) : Tups Z (vs ++ [.ref a]) (xs ++ [(s, n)]) := by
  induction T with
  | nil => exact .cons hm .nil
  | cons h _ ih => exact .cons h ih
theorem Tups.get {Z : List (Addr × Obj)} {vs : List Value} {xs : List (Int × Int)} (T : Tups Z vs xs) : ∀ (i : Nat) (v : Value), vs[i]? = some v → ∃ a s n t u k, v = .ref a ∧ (a, tupObj s n t u k) ∈ Z ∧ xs[i]? = some (s, n) := by
  induction T with
  | nil => intro i v h; simp at h
  | cons hm _ ih =>
    intro i v h
    cases i with
    | zero => simp at h; exact ⟨_, _, _, _, _, _, h.symm, hm, by simp⟩
    | succ i => simp at h; obtain ⟨a, s, n, t, u, k, h1, h2, h3⟩ := ih i v h; exact ⟨a, s, n, t, u, k, h1, h2, by simpa using h3⟩
noncomputable def tupDats (xs : List (Int × Int)) : List Dat := xs.map fun q => .tuple [.int q.1, .int q.2]
theorem Tups.dats {Z : List (Addr × Obj)} {vs : List Value} {xs : List (Int × Int)} (T : Tups Z vs xs) : DatAll Z vs (tupDats xs) := by
  induction T with
  | nil => exact .nil
  | cons hm _ ih => exact .cons (.tuple (vs := [_, _]) hm (.cons (.int _ _) (.cons (.int _ _) .nil))) ih
theorem tupDats_ok (xs : List (Int × Int)) : ∀ d ∈ tupDats xs, kqdOk 8 d = true := by
  intro d hd
  obtain ⟨q, _, rfl⟩ := List.mem_map.mp hd
  rfl
noncomputable def tot (xs : List (Int × Int)) : Int := (xs.map (·.1)).sum
theorem tot_cons (a : Int × Int) (xs : List (Int × Int)) : tot (a :: xs) = a.1 + tot xs := by simp [tot]
theorem tot_snoc (a : Int × Int) (xs : List (Int × Int)) : tot (xs ++ [a]) = tot xs + a.1 := by simp [tot, List.sum_append]
theorem tot_nonneg {xs : List (Int × Int)} (h : ∀ q ∈ xs, 0 ≤ q.1) : 0 ≤ tot xs := by
  induction xs with
  | nil => simp [tot]
  | cons a xs ih => rw [tot_cons]; have := h a (.head _); have := ih fun q hq => h q (.tail _ hq); omega

section
variable {prog : Program} {w : World} {A : Around} {E : Value → Shared → Prop} {s : Shared} {h₀ : Heap} {L D a b : Addr} {m : Str → Option Value} {news : List (Addr × Obj)} {Q : Value → Shared → Prop}
theorem append_st {us : List Value} {n : Nat} {x : Value} {g : Obj → List (Addr × Obj)} (F : Fr h₀ L s.heap m) (N : News h₀ L s.heap news) (U : UpdF D (listOf us.toArray n) news g) (hz : us.length ≤ 1000)
    (h : ∀ h' n', Fr h₀ L h' m → News h₀ L h' (g (listOf (us ++ [x]).toArray n')) → Q .none { s with heap := h' }) : wpAny (model prog w) A (call (.builtin "list.append") [.ref D, x]) Q E s := by
  obtain ⟨pre, post, rfl, hg, p1, p2⟩ := U.split
  have z := N (D, listOf us.toArray n) (List.mem_append.mpr (.inr (.head _)))
  refine append_at (hsz := by rw [List.size_toArray, PySem.sizeLine_eq]; omega) z.1 fun h' hs ho' => h h' (n + 1) (F.change hs z.2.1 z.2.2) ?_
  rw [hg]
  refine news_set N p1 p2 hs ?_
  rw [ho', List.push_toArray]
theorem pop0_st {us : List Value} {n : Nat} {y : Value} {u : Tok} {g : Obj → List (Addr × Obj)} (F : Fr h₀ L s.heap m) (N : News h₀ L s.heap news) (U : UpdF D (listOf (y :: us).toArray n) news g) (hz : us.length < 1000)
    (h : ∀ h' n', Fr h₀ L h' m → News h₀ L h' (g (listOf us.toArray n')) → Q y { s with heap := h' }) : wpAny (model prog w) A (call (.builtin "list.pop") [.ref D, .int 0 u]) Q E s := by
  obtain ⟨pre, post, rfl, hg, p1, p2⟩ := U.split
  have z := N (D, listOf (y :: us).toArray n) (List.mem_append.mpr (.inr (.head _)))
  have hz' : (y :: us).toArray.size ≤ sizeLine := by rw [List.size_toArray, List.length_cons, PySem.sizeLine_eq]; omega
  have hk : seqIndex? 0 (y :: us).toArray.size = some 0 := by
    rw [List.size_toArray, List.length_cons]
    unfold seqIndex?
    simp
    try omega
  refine call_meets PySem.F.slot_list_pop ⟨_, z.1, rfl⟩ PySem.F.entry_list_pop (PySem.F.args_list_pop_2 _ _) (PySem.MeetsSeq.list_pop_at D _ n 0 u 0 y (by rfl) hk (by simp) hz') ⟨z.1, h _ (n + 1) (F.change (Heap.SameBut.update ..) z.2.1 z.2.2) ?_⟩
  rw [hg]
  refine kl_turn _ N p1 p2 ?_ ?_
  · exact kl_erase [] us y
  · rw [List.size_toArray, List.size_toArray, List.length_cons]
    omega
theorem ne_tups {x y : Int} {t1 t2 u1 u2 : Tok} {ka kb : Nat} (N : News h₀ L s.heap news) (ma : (a, tupObj x y t1 u1 ka) ∈ news) (mb : (b, tupObj x y t2 u2 kb) ∈ news) (hu : A.units + 64 < cLine)
    (h : Q (.bool false) s) : wpAny (model prog w) A (compareOp .NotEq (.ref a) (.ref b)) Q E s := by
  have rr : ∀ c t u k, (c, tupObj x y t u k) ∈ news → ∃ as, Reads s.heap (.ref c) (.tuple [.int x, .int y]) as := fun c t u k hm =>
    ⟨_, reads_tuple_at (N.get hm) rfl rfl (ReadsAll.cons (.int x t) (.cons (.int y u) .nil))⟩
  obtain ⟨as, ra⟩ := rr a _ _ ka ma
  obtain ⟨bs, rb⟩ := rr b _ _ kb mb
  refine ne_dataH ra rb rfl rfl hu ?_
  have e : PyData.eqv (.tuple [.int x, .int y]) (.tuple [.int x, .int y]) = true := by simp [PyData.eqv, PyData.eqvAll]
  rw [e]
  exact h
open Classical in
theorem eq_lists {vs us : List Value} {xs : List (Int × Int)} {ka kb : Nat} {Z : List (Addr × Obj)} (N : News h₀ L s.heap news) (ma : (a, listOf vs.toArray ka) ∈ news) (mb : (b, listOf us.toArray kb) ∈ news) (hZ : ∀ p ∈ Z, p ∈ news) (Ta : Tups Z vs xs) (Tb : Tups Z us xs) (hu : A.units + 64 < cLine)
    (h : Q (.bool true) s) : wpAny (model prog w) A (compareOp .Eq (.ref a) (.ref b)) Q E s := by
  refine kqd_eq N ma rfl rfl Ta.dats hZ mb rfl rfl Tb.dats hZ (tupDats_ok xs) (tupDats_ok xs) hu ?_
  rw [decide_eq_true rfl]
  exact h
open Classical in
theorem ne_nil_cons {vs : List Value} {x : Int × Int} {xs : List (Int × Int)} {ka kb : Nat} {Z : List (Addr × Obj)} (N : News h₀ L s.heap news) (ma : (a, listOf vs.toArray ka) ∈ news) (mb : (b, listOf #[] kb) ∈ news) (hZ : ∀ p ∈ Z, p ∈ news) (Ta : Tups Z vs (x :: xs)) (hu : A.units + 64 < cLine)
    (h : Q (.bool true) s) : wpAny (model prog w) A (compareOp .NotEq (.ref a) (.ref b)) Q E s := by
  refine kqd_ne N ma rfl rfl Ta.dats hZ (ys := []) mb rfl rfl (DatAll.nil (news := Z)) hZ (tupDats_ok _) (by simp) hu ?_
  rw [decide_eq_false (by simp [tupDats])]
  exact h
open Classical in
theorem ne_nil_nil {ka kb : Nat} (N : News h₀ L s.heap news) (ma : (a, listOf #[] ka) ∈ news) (mb : (b, listOf #[] kb) ∈ news) (hu : A.units + 64 < cLine)
    (h : Q (.bool false) s) : wpAny (model prog w) A (compareOp .NotEq (.ref a) (.ref b)) Q E s := by
  refine kqd_ne N (xs := []) ma rfl rfl (DatAll.nil (news := news)) (fun _ h => h) (ys := []) mb rfl rfl (DatAll.nil (news := news)) (fun _ h => h) (by simp) (by simp) hu ?_
  rw [decide_eq_true rfl]
  exact h
theorem len_st {vs : List Value} {n : Nat} {k : Nat} (N : News h₀ L s.heap news) (hm : (D, listOf vs.toArray n) ∈ news) (hk : vs.length = k) (hz : k < 1000)
    (h : ∀ (t : Tok) tk, Q (.int k t) { s with toks := tk }) : wpAny (model prog w) A (call (.builtin "len") [.ref D]) Q E s := by
  subst hk
  refine PySem.Calls.call_len_list (News.isList N hm) (by rw [List.size_toArray]; omega) ?_
  rw [List.size_toArray]
  exact h _ _
end
section
variable {prog : Program} {w : World} {A : Around} {h₀ : Heap} {L : Addr} {m : Str → Option Value} {env : Env} {elt : Expr} {x x₂ : Str} {scope : Scope} {cl : List (Str × Addr)} {s : Shared} {S : List (Addr × Obj) → Prop} {Fin : List Value → List (Addr × Obj) → Prop}
theorem sizes_comp {news Z : List (Addr × Obj)} {vs : List Value} {xs : List (Int × Int)} {n : Nat} (T : Tups Z vs xs) (hZ : ∀ p ∈ Z, p ∈ news) (hn : vs.toArray.size = n)
    (turn : ∀ (a b : Int) (t u : Tok) ys I oI C oC D m₂ h tk (E' : Value → Shared → Prop), LCg.NsObj oC m₂ → m₂ x = some (.int a t) → m₂ x₂ = some (.int b u) → Fr h₀ L h m → News h₀ L h ((I, oI) :: (C, oC) :: (D, LCg.lst ys) :: news) → LCg.Off3 I C D news → ((@Ne Nat I C) ∧ (@Ne Nat I D) ∧ (@Ne Nat C D)) →
      wpAny (model prog w) A (eval elt (compEnvC scope cl C env)) (LCg.CompEnd h₀ L m { s with heap := h, toks := tk } I oI C oC D (LCg.lst ys) S (fun y news' => ∃ t', news' = news ∧ y = .int a t')) E' { s with heap := h, toks := tk })
    (fin : ∀ ys, IntsAre ys (xs.map (·.1)) → Fin ys news) : LCp.CompRestP prog w A h₀ L m env elt x x₂ scope cl s S (fun i v => vs.toArray[i]? = some v) Fin n 0 [] news := by
  subst hn
  have key : ∀ (j i : Nat) (ys : List Value), i + j = vs.length → IntsAre ys ((xs.take i).map (·.1)) → LCp.CompRestP prog w A h₀ L m env elt x x₂ scope cl s S (fun i v => vs.toArray[i]? = some v) Fin j i ys news := by
    intro j
    induction j with
    | zero =>
      intro i ys hi hy
      refine LCp.CompRestP.zero (fin ys ?_)
      rw [List.take_of_length_le (by rw [← T.length]; omega)] at hy
      exact hy
    | succ j ih =>
      intro i ys hi hy
      refine LCp.CompRestP.succ ?_
      intro v hv
      obtain ⟨a, sz, nm, t, u, k, rfl, hm, hx⟩ := T.get i v (by simpa using hv)
      refine ⟨a, _, _, _, k, rfl, hZ _ hm, rfl, rfl, ?_⟩
      intro I oI C oC D m₂ h tk E' hC hx1 hx2 F N off ne
      refine wpAny_mono (turn sz nm t u ys I oI C oC D m₂ h tk E' hC hx1 hx2 F N off ne) (fun y s₂ hq => compEnd_mono (fun nw hr => ?_) hq) fun _ _ e => e
      obtain ⟨t', hn, hy'⟩ := hr
      subst hn
      subst hy'
      refine ih (i + 1) _ (by omega) ?_
      have e1 : (xs.take (i + 1)).map (·.1) = (xs.take i).map (·.1) ++ [sz] := by rw [List.take_add_one, hx]; simp
      rw [e1]
      exact IntsAre.append hy (.cons sz t' .nil)
  rw [List.size_toArray]
  exact key _ 0 [] (by omega) .nil
end
end Mine
end
section
open PySem PySem.W PySem.Spec PySem.Calls PyProof.Rows PyProof.V
set_option maxRecDepth 100000
set_option linter.unusedVariables false
namespace Mine
section
variable {prog : Program} {w : World} {A : Around} {E : Value → Shared → Prop} {s : Shared} {env : Env} {h₀ : Heap} {x : Str} {body : List Stmt} {Q : Flow → Shared → Prop}
noncomputable abbrev scM (l : Addr) (u : Str → Option Value) : Str → Option Value := fun y => if y = Str.ofString "script" then some (.ref l) else u y
theorem scM_eq {l : Addr} {m : Str → Option Value} (h : m (Str.ofString "script") = some (.ref l)) : m = scM l m := by
  funext y
  by_cases e : y = Str.ofString "script"
  · rw [e, h]; simp [scM]
  · simp [scM, e]
/-- the law's own loop: a turn keeps the script and what was there before; all else may change -/
theorem law_loop {r l : Addr} {b₀ : Int} {t₀ u₀ v₀ : Tok} {m₀ : Str → Option Value} {news : List (Addr × Obj)}
    (hh : A.handled = none) (hr : IsRange s.heap r 0 b₀ 1 t₀ u₀ v₀) (h0 : 0 ≤ b₀) (h2 : b₀ ≤ 2) (F : Fr h₀ env.locals s.heap m₀) (N : News h₀ env.locals s.heap news) (hm : m₀ (Str.ofString "script") = some (.ref l))
    (turn : ∀ (k : Int) (t : Tok) (h : Heap) (tk : Nat) (own : List (Addr × Obj)) (u : Str → Option Value) (R : Flow → Shared → Prop), 0 ≤ k → k < 2 →
      Fr h₀ env.locals h (fun y => if y = x then some (.int k t) else scM l u y) → News h₀ env.locals h own →
      (∀ (h' : Heap) (tk' : Nat) (m' : Str → Option Value) (news' : List (Addr × Obj)), News h₀ env.locals h' news' → (∀ p ∈ own, p ∈ news') → m' (Str.ofString "script") = some (.ref l) → Fr h₀ env.locals h' m' → R .next { s with heap := h', toks := tk' }) →
      wpAny (model prog w) A (execs body env) R E { s with heap := h, toks := tk })
    (done : ∀ (h : Heap) (tk : Nat) (u : Str → Option Value), Fr h₀ env.locals h (scM l u) → News h₀ env.locals h [] → Q .next { s with heap := h, toks := tk }) :
    wpAny (model prog w) A (pyIter (.ref r)) (fun it s₂ => LoopAtV prog w A h₀ env x body Q E it s₂) E s := by
  obtain ⟨n, hn⟩ : ∃ n : Nat, (n : Int) = b₀ := ⟨b₀.toNat, by omega⟩
  refine range_state (σ := Str → Option Value) (n := n) (fun u => scM l u) (fun _ => []) (fun _ _ => True) m₀ hh hr (small_one (by omega) (by omega) (by omega) (by omega)) (by rw [rangeSize_nat]; simp; omega) F N (scM_eq hm) (fun p hp => by cases hp) trivial ?_ ?_
  · rintro i u t h tk own hi - hown F₁ N₁
    refine turn (i : Int) t h tk own u _ (by omega) (by omega) (by simpa using F₁) (by simpa using N₁) ?_
    intro h' tk' m' news' N' hs hm' F'
    have key : InvEndG h₀ env.locals (fun m' nx => ∃ c' : Str → Option Value, m' = scM l c' ∧ nx = [] ∧ True) own { s with heap := h, toks := tk } { s with heap := h', toks := tk' } :=
      InvEndG.intro (s₁ := { s with heap := h, toks := tk }) F' N' ⟨m', scM_eq hm', rfl, trivial⟩ (fun q hq b hb => by cases hb) (fun p hp => by cases hp) hs
    exact key
  · intro u h tk _ F₁ N₁
    exact done h tk u F₁ N₁
end
end Mine
end
section
open PySem PySem.W PySem.Calls PyProof.Rows PySem.Spec
set_option maxRecDepth 100000
set_option linter.unusedVariables false
namespace Mine

noncomputable abbrev tupleOf (vs : List Value) : Obj := { cls := .type "tuple", data := .seq vs.toArray }
noncomputable abbrev excObj (C t : Addr) : Obj := { cls := .ref C, data := .fields #[.ref t, .none, .none, .none, .bool false, .none] }

inductive ExcShape (C : Addr) (B newId : String) : Obj → Prop
  | mk (nm q : Str) (N : Addr) (bs bm : List Value) (hdct : Bool) (sn : List Str) (sub : List Value) (ab : Bool) (col : Option Bool) (dd : Option Addr) (k0 k1 k2 k3 k5 : Option Value) :
    bm.contains (.type B) = true → bm.contains (.type "AttributeError") = false → bm.contains (.type "NameError") = false → bm.contains (.type "BaseException") = true →
    ExcShape C B newId (excClassObj nm q C N bs bm hdct sn sub ab col dd k0 k1 k2 k3 k5 newId)
/-- what the making of an exception of a class of the text's own reads of that class -/
structure ExcFacts (M : Model) (h : Heap) (C : Addr) (B newId : String) : Prop where
  obj : ∃ o, h.get? C = some o ∧ ExcShape C B newId o
  call : Looks M h (specialOf (.ref C) "__call__") (some (.builtin "type.__call__"))
  typ : Looks M h (isInstance (.ref C) (.type "type")) true

/-- the same, of the part that is written out -/
structure ExcMk (K : Frag) (C : Addr) (B newId : String) : Prop where
  obj : ∃ o, K.lookup C = some o ∧ ExcShape C B newId o
  call : specialIn K (.ref C) "__call__" = some (some (.builtin "type.__call__"))
  typ : instIn K (.ref C) (.type "type") = some true
theorem excFacts_of {K : Frag} {M : Model} {h : Heap} (X : K.In h) {C : Addr} {B newId : String} (q : ExcMk K C B newId) : ExcFacts M h C B newId :=
  ⟨q.obj.elim fun o ho => ⟨o, X _ _ ho.1, ho.2⟩, looks_specialIn X q.call, looks_instIn X q.typ⟩

section
variable {M : Model} {A : Around} {E : Value → Shared → Prop} {h : Heap} {g : Array GenState} {d : Drawn} {t : Nat} {os : OsState}
variable {nm q : Str} {C N : Addr} {bs bm bmB : List Value} {hdct : Bool} {sn : List Str} {sub : List Value} {ab : Bool} {col : Option Bool} {dd : Option Addr} {k0 k1 k2 k3 k5 : Option Value} {B newId initId : String}
theorem check_newE (F : ExcBaseFacts B newId initId bmB) (hB : bm.contains (.type B) = true) {rest : List Value} {Q : Unit → Shared → Prop} (hC : h.get? C = some (excClassObj nm q C N bs bm hdct sn sub ab col dd k0 k1 k2 k3 k5 newId))
    (hq : Q () ⟨h, g, d, t, os⟩) : wpAny M A (checkBuiltinCall newId ⟨.ref C :: rest, []⟩) Q E ⟨h, g, d, t, os⟩ := by
  have hcont : (Value.ref C :: bm).contains (.type B) = true := by rw [List.contains_cons, hB, Bool.or_true]
  have hstar := F.noStar
  simp only [checkBuiltinCall, F.newKind, F.newSplit, F.newRow]
  repeat (first | refine wpAny_loadPart_at hC ?_ | (refine wpAny_isSubtype_exc hC ?_; rw [hcont]) | refine wpAny_staticBase_exc hC ?_ | refine wpAny_madeBy_exc hC ?_ | simp only [bne_self_eq_false, Bool.false_eq_true, if_false] | wp_step)
  exact hq
end

section
variable {prog : Program} {w : World} {A : Around} {R : Result → Shared → Prop} {h : Heap} {g : Array GenState} {d : Drawn} {t : Nat} {os : OsState}
variable {nm q : Str} {C N : Addr} {bs bm bmB : List Value} {hdct : Bool} {sn : List Str} {sub : List Value} {ab : Bool} {col : Option Bool} {dd : Option Addr} {k0 k1 k2 k3 k5 : Option Value} {B newId initId : String}
theorem code_newE (F : ExcBaseFacts B newId initId bmB) (hB : bm.contains (.type B) = true) (hAt : bm.contains (.type "AttributeError") = false) (hNm : bm.contains (.type "NameError") = false) {rest : List Value}
    (hC : h.get? C = some (excClassObj nm q C N bs bm hdct sn sub ab col dd k0 k1 k2 k3 k5 newId)) (hrest : rest.length ≤ sizeLine)
    (hq : R (.ok (.ret (.ref (h.objs.size + 1)))) ⟨(h.push (tupleOf rest)).push (excObj C h.objs.size), g, d, t, os⟩) :
    codeAny (model prog w) A (.builtin newId ⟨.ref C :: rest, []⟩) R ⟨h, g, d, t, os⟩ := by
  have hends := F.ends
  have hcB : (Value.ref C :: bm).contains (.type B) = true := by rw [List.contains_cons, hB, Bool.or_true]
  have hcA : (Value.ref C :: bm).contains (.type "AttributeError") = false := by rw [List.contains_cons, hAt]; rfl
  have hcN : (Value.ref C :: bm).contains (.type "NameError") = false := by rw [List.contains_cons, hNm]; rfl
  refine codeAny_builtinAt F.entry ?_
  unfold Builtin.«BaseException.__new__»
  refine PySem.wpAt_bind ?_
  show PySem.wpAt _ _ _ (stack >>= _) _ _ _
  refine PySem.wpAt_bind (PySem.wpAt_stack fun p below => PySem.wpAt_of_wpAny ?_)
  wp_walk
  refine PySem.wpAt_of_wpAny ?_
  rw [F.owner]
  repeat (first | with_reducible refine wpAny_madeHere_exc F.canon hC ?_ | with_reducible refine wpAny_loadPart_at hC ?_ | (with_reducible refine wpAny_isSubtype_exc hC ?_; first | rw [hcB] | rw [hcA] | rw [hcN]) | wp_step)
  show R _ _
  rw [Heap.size_push]
  exact hq

set_option maxHeartbeats 4000000 in
theorem exc_core {rest : List Value} {init : Value} (F : ExcBaseFacts B newId initId bmB) (Y : ExcFacts (model prog w) h C B newId) (hi : Looks (model prog w) h (typeLookup (.ref C) "__init__") (some init))
    (hb : ∀ self, Looks (model prog w) h (bindSpecial init self) (init, [self])) (hrest : rest.length ≤ sizeLine)
    (hq : codeAny (model prog w) (A.under (.builtin "type.__call__" ⟨.ref C :: rest, []⟩)) (.call init ⟨.ref (h.objs.size + 1) :: rest, []⟩) (InitBack (h.objs.size + 1) R) ⟨(h.push (tupleOf rest)).push (excObj C h.objs.size), g, d, t, os⟩) :
    codeAny (model prog w) A (.call (.ref C) ⟨rest, []⟩) R ⟨h, g, d, t, os⟩ := by
  obtain ⟨⟨_, hC, ⟨nm, q, N, bs, bm, hdct, sn, sub, ab, col, dd, k0, k1, k2, k3, k5, hB, hAt, hNm, hBE⟩⟩, call, typ⟩ := Y
  refine codeAny_of_tree ?_
  show wpAny _ _ (callAny (.ref C) _) _ _ _
  refine nd_load hC ?_
  show wpAny _ _ (callAny.viaDunder (.ref C) _) _ _ _
  unfold callAny.viaDunder
  refine wpAny_bind (call.at ?_)
  dsimp only
  rw [PySem.tc_bind]
  refine wpAny_bind (wpAny_pure (wpAny_bind (wpAny_pure ?_)))
  refine wpAny_pure (a := Fin.again (.call (.builtin "type.__call__") ⟨.ref C :: rest, []⟩)) (And.intro rfl ?_)
  refine codeAny_call_builtin_at (Code.quiet_builtin _ (by decide +kernel)) entry_typeCall (check_slot tc_kind tc_split typ (tc_args _ _ _) ?_)
  repeat (first | with_reducible refine wpAny_loadPart_at hC ?_ | with_reducible refine wpAny_madeBy_exc hC ?_ | wp_step)
  refine codeAny_call_builtin_code (Code.quiet_builtin _ F.quiet) (check_newE F hB hC ?_)
  refine code_newE F hB hAt hNm hC hrest ?_
  show wpAny _ _ _ _ _ _
  have k : ∀ b o, h.get? b = some o → ((h.push (tupleOf rest)).push (excObj C h.objs.size)).get? b = some o := fun b o e => Heap.get?_push_of_some _ (Heap.get?_push_of_some _ e)
  have hC₁ := k _ _ hC
  have hget : ((h.push (tupleOf rest)).push (excObj C h.objs.size)).get? (h.objs.size + 1) = some (excObj C h.objs.size) := by heap_get
  have hcC : (Value.ref C :: bm).contains (.ref C) = true := by simp
  have i1 := hi.keeps k
  have b1 := (hb (.ref (h.objs.size + 1))).keeps k
  have t1 : Looks (model prog w) ((h.push (tupleOf rest)).push (excObj C h.objs.size)) (typeOf (.ref (h.objs.size + 1))) (.ref C) := (Looks.ld hget).andThen .now
  have s1 : Looks (model prog w) ((h.push (tupleOf rest)).push (excObj C h.objs.size)) (isSubtype (.ref C) (.ref C)) true := fun A Q E s k q => by
    obtain ⟨hp, g, d, tk, os⟩ := s
    refine wpAny_isSubtype_exc (k _ _ hC₁) ?_
    rw [hcC]
    exact q
  unfold isInstance
  unfold callSpecial? specialOf
  repeat (first | with_reducible refine wpAny_call ?_ | lk)
  refine codeAny_mono hq fun r s' z => ?_
  rcases r with e | (v | _ | _ | _) <;> first | exact z | exact z.elim | skip
  obtain ⟨rfl, z⟩ := z
  exact wpAny_pure (wpAny_pure z)
end

section
variable {prog : Program} {w : World} {A : Around} {K : Frag} {C : Addr} {s : Shared} {h₀ : Heap} {L : Addr} {m : Str → Option Value} {news : List (Addr × Obj)} {Q E : Value → Shared → Prop} {B newId initId : String} {bmB : List Value}
theorem call_exc {pos : List Value} {fI : Addr} (FB : ExcBaseFacts B newId initId bmB) (F : Fr h₀ L s.heap m) (X₀ : K.In h₀) (N : News h₀ L s.heap news) (hm : ExcMk K C B newId) (hi : findIn K (.ref C) "__init__" = some (some (.ref fI)))
    (hf : isFn K (.ref fI) = true) (hrest : pos.length ≤ sizeLine)
    (h : ∀ x dx h', Fr h₀ L h' m → News h₀ L h' ((x, excObj C dx) :: (dx, tupleOf pos) :: news) → (∀ p ∈ news, p.1 < dx) → dx < x →
      codeAny (model prog w) (A.under (.builtin "type.__call__" ⟨.ref C :: pos, []⟩)) (.call (.ref fI) ⟨.ref x :: pos, []⟩) (InitBack x fun r s' => match r with | .ok (.ret v) => Q v s' | .ok _ => False | .error e => E e s') { s with heap := h' }) :
    wpAny (model prog w) A (call (.ref C) pos []) Q E s := by
  refine wpAny_call ?_
  have X := X₀.keeps F.keep
  have hf' : typeIn K (.ref fI) = some (.type "function") := beq_iff_eq.mp hf
  obtain ⟨hh, g, d, t, os⟩ := s
  refine exc_core FB (excFacts_of X hm) (looks_findIn X hi) (fun self => bind_fn X self hf') hrest (h _ hh.objs.size _ ((F.push _).push _) ?_ (fun p hp => Heap.lt_size (N p hp).1) (Nat.lt_succ_self _))
  have := (N.push F (tupleOf pos)).push (F.push _) (excObj C hh.objs.size)
  rwa [Heap.size_push] at this
end
end Mine
end
section
open PySem PySem.W PySem.Calls PyProof.Rows PySem.Spec Builtin.ObjectAttr
set_option maxRecDepth 100000
set_option linter.unusedVariables false
namespace Mine

theorem meta_Exception : typeOf (.type "Exception") = pure (.type "type") := by kernel_rfl

noncomputable def ownThen (bm : List Value) : List Value → Bool
  | .ref _ :: r => ownThen bm r
  | l => l == bm
theorem refuse_own {bm : List Value} {self : Value} (hp : refuseLoop self "__setattr__" bm = pure ()) {l : List Value} (e : ownThen bm l = true) : refuseLoop self "__setattr__" l = pure () := by
  induction l with
  | nil => rw [beq_iff_eq.mp e]; exact hp
  | cons v r ih => cases v <;> first | (rw [refuseLoop_ref]; exact ih e) | (rw [beq_iff_eq.mp e]; exact hp)
theorem own_has {bm : List Value} {x : String} (h : bm.contains (.type x) = true) {l : List Value} (e : ownThen bm l = true) : l.contains (.type x) = true := by
  induction l with
  | nil => rw [beq_iff_eq.mp e]; exact h
  | cons v r ih => cases v <;> first | (rw [List.contains_cons, ih e, Bool.or_true]) | (rw [beq_iff_eq.mp e]; exact h)

noncomputable abbrev bmE : List Value := [.type "Exception", .type "BaseException", .type "object"]
noncomputable def excOver (K : Frag) (C : Addr) : Bool := (clsIn K C).any fun cd => ownThen bmE cd.mro && cd.hasDict

section
variable {prog : Program} {w : World} {A : Around} {K : Frag} {C x : Addr} {s : Shared} {h₀ : Heap} {L : Addr} {m : Str → Option Value} {news : List (Addr × Obj)} {R : Result → Shared → Prop} {name : Str} {tk : Tok} {v : Value}

theorem osa_openE {ox : Obj} (X : K.In s.heap) (hx : s.heap.get? x = some ox) (hcl : ox.cls = .ref C) (hp : excOver K C = true) (ht : takerIn K C name = some none)
    (h : ∀ b, wpAny (model prog w) A.in1 (storeInOwnDict (.ref x) (.ref C) (.str name tk) name v b)
      (fun fin s' => match fin with | .done f => R (.ok f) s' | .again c' => c'.quiet = true ∧ codeAny (model prog w) A c' R s') (fun e s' => R (.error e) s') s) :
    codeAny (model prog w) A (.call (.builtin "object.__setattr__") ⟨[.ref x, .str name tk, v], []⟩) R s := by
  have SF := PySem.F.store_Exception
  obtain ⟨cd, hc, ho'⟩ := any_some hp
  obtain ⟨ho, hdct⟩ := Bool.and_eq_true_iff.mp ho'
  have ne : cd.mro.isEmpty = false := by cases q : cd.mro with | nil => rw [q] at ho; cases ho | cons _ _ => rfl
  have Ty : Looks (model prog w) s.heap (typeOf (.ref x)) (.ref C) := by rw [← hcl]; exact (Looks.ld hx).andThen .now
  have sub : Looks (model prog w) s.heap (isInstance (.ref x) (.type "object")) true := Ty.andThen (looks_mroIn X (by unfold mroIn; rw [hc, Option.bind_some, if_neg (by rw [ne]; decide), own_has (x := "object") (by decide +kernel) ho]))
  refine codeAny_call_builtin SF.slot.plain SF.entry (@check_slot (model prog w) _ _ s "object.__setattr__" "object" "__setattr__" (.ref x) [.str name tk, v] [] _ SF.kind SF.split sub (SF.args (.ref x) (.str name tk) v) ?_)
  obtain ⟨attr, ha, hr⟩ := Option.bind_eq_some_iff.mp ht
  have hm : Looks (model prog w) s.heap (mroOf (.ref C)) cd.mro := (looks_clsIn X hc).andThen .now
  have L3 : Looks (model prog w) s.heap (storeTaker? attr) none := by
    cases attr with
    | none => exact .now
    | some a =>
      obtain ⟨b, hb, hr'⟩ := Option.map_eq_some_iff.mp hr
      refine (looks_takesIn X hb).andThen ?_
      cases b
      · exact .now
      · cases hr'
  rw [osa_eq, refuse_eq]
  refine wpAny_bind (wpAny_bind (Ty.here (wpAny_bind (hm.here ?_))))
  rw [refuse_own (SF.passes _) ho]
  refine wpAny_pure (wpAny_bind (Ty.here (wpAny_bind ((looks_findIn X ha).here (wpAny_bind (L3.here ?_))))))
  exact h _

/-- an attribute of an exception that has its own dict already -/
theorem osa_dictE {ox : Obj} {dx : Addr} {g : Obj → List (Addr × Obj)} {es : List DictEntry} {es' : Tok → List DictEntry} {n n' : Nat} (F : Fr h₀ L s.heap m) (N : News h₀ L s.heap news) (X : K.In s.heap) (hx : s.heap.get? x = some ox) (hcl : ox.cls = .ref C) (hd : ox.dict = some dx) (hp : excOver K C = true) (ht : takerIn K C name = some none)
    (hl : (getL name es).isSome = true) (U : UpdF dx (dictOf es n) news g) (e : ∀ tk', (putL name (PyData.keyHash w.params name) (.str name tk') v es, putN name es n) = (es' tk', n')) (hz : ∀ tk', (es' tk').length ≤ 1000)
    (h : ∀ h' tk', Fr h₀ L h' m → News h₀ L h' (g (dictOf (es' tk') n')) → R (.ok (.ret .none)) { s with heap := h', toks := s.toks + 1 }) :
    codeAny (model prog w) A (.call (.builtin "object.__setattr__") ⟨[.ref x, .str name tk, v], []⟩) R s := by
  refine osa_openE X hx hcl hp ht fun b => ?_
  obtain ⟨cd, hc, ho'⟩ := any_some hp
  obtain ⟨ho, hdct⟩ := Bool.and_eq_true_iff.mp ho'
  obtain ⟨pre, post, rfl, hg, h1, h2⟩ := U.split
  have e1 := e s.toks
  obtain ⟨e1, e2⟩ := Prod.mk.inj e1
  obtain ⟨U1, U2⟩ := news_upd (f := Obj.putName name (PyData.keyHash w.params name) (.str name s.toks) v) F N h1 h2 (by rw [putName_dict, e1, e2]) rfl
  have D := (N (dx, dictOf es n) (List.mem_append.mpr (.inr (.head _)))).1
  have D' := (U2 (dx, _) (List.mem_append.mpr (.inr (.head _)))).1
  obtain ⟨oc, odi, oda, osl⟩ := ox
  dsimp only at hcl hd
  subst hcl hd
  refine wpAny_bind (wpAny_pure (wpAny_bind (wpAny_bind (wpAny_loadPart hx (wpAny_bind ((looks_clsIn X hc).here ?_))))))
  rw [hdct]
  refine wpAny_pure (a := some dx) (wpAny_bind (wpAny_pure (wpAny_bind ?_)))
  unfold nsSet
  refine wpAny_bind (wpAny_bind (wpAny_askSetting (wpAny_pure (wpAny_bind (wpAny_mkText (wpAny_bind (wpAny_loadPart D ?_)))))))
  unfold getL at hl
  have c : (!(es.toArray).any (·.key.isStr name) && (es.toArray).any (·.refKey)) = false := by
    rw [← Array.any_toList, ← Array.any_toList]
    split at hl
    · rename_i en he
      rw [List.any_eq_true.mpr ⟨en, List.mem_of_find?_eq_some he, List.find?_some he⟩]; rfl
    · split at hl
      · cases hl
      · rename_i z; rw [Bool.not_eq_true] at z; rw [z, Bool.and_false]
  dsimp only
  rw [aRefKeyMayBeTheName_at, c]
  refine wpAny_updatePart D ?_
  refine wpAny_bind (wpAny_lookBehind D' (pastItsLine_dict (by have := hz s.toks; rw [List.size_toArray, sizeLine_eq]; omega)) ?_)
  exact wpAny_pure (h _ s.toks U1 (by rw [hg]; exact U2))

/-- the first attribute of an exception: its dict is made -/
theorem osa_newE {vs : Array Value} {g : Obj → List (Addr × Obj)} (F : Fr h₀ L s.heap m) (N : News h₀ L s.heap news) (X : K.In s.heap) (hp : excOver K C = true) (ht : takerIn K C name = some none)
    (U : UpdF x { cls := .ref C, data := .fields vs } news g)
    (h : ∀ d h' tk', Fr h₀ L h' m → News h₀ L h' ((d, dictOf [⟨PyData.keyHash w.params name, .str name tk', v⟩] 1) :: g { cls := .ref C, dict := some d, data := .fields vs }) → (∀ p ∈ news, p.1 < d) → R (.ok (.ret .none)) { s with heap := h', toks := s.toks + 1 }) :
    codeAny (model prog w) A (.call (.builtin "object.__setattr__") ⟨[.ref x, .str name tk, v], []⟩) R s := by
  obtain ⟨pre, post, rfl, hg, h1, h2⟩ := U.split
  have hx := (N (x, _) (List.mem_append.mpr (.inr (.head _)))).1
  refine osa_openE X hx rfl hp ht fun b => ?_
  obtain ⟨cd, hc, ho'⟩ := any_some hp
  obtain ⟨ho, hdct⟩ := Bool.and_eq_true_iff.mp ho'
  obtain ⟨hh, gg, d, t, os⟩ := s
  have lt : ∀ p ∈ pre ++ (x, ({ cls := .ref C, data := .fields vs } : Obj)) :: post, p.1 < hh.objs.size := fun p hp => Heap.lt_size (N p hp).1
  have F1 := F.push emptyDict
  have N1 := N.push F emptyDict
  have hxs : @Ne Nat hh.objs.size x := Nat.ne_of_gt (lt (x, _) (List.mem_append.mpr (.inr (.head _))))
  obtain ⟨F2, N2⟩ := news_upd (f := fun o => { o with dict := some hh.objs.size }) (pre := (hh.objs.size, emptyDict) :: pre) (post := post) F1 N1 (fun p hp => by
    rcases List.mem_cons.mp hp with rfl | hp
    · exact hxs
    · exact h1 p hp) h2 rfl rfl
  obtain ⟨F3, N3⟩ := news_upd (f := Obj.putName name (PyData.keyHash w.params name) (.str name t) v) (pre := []) F2 N2 (fun p hp => by cases hp) (fun p hp => by
    rcases List.mem_append.mp hp with hp | hp
    · exact Nat.ne_of_lt (lt p (List.mem_append.mpr (.inl hp)))
    · rcases List.mem_cons.mp hp with rfl | hp
      · exact hxs.symm
      · exact Nat.ne_of_lt (lt p (List.mem_append.mpr (.inr (.tail _ hp))))) (putName_dict name _ _ v [] 0) rfl
  have D := (N2 (hh.objs.size, emptyDict) (.head _)).1
  have D' := (N3 (hh.objs.size, _) (.head _)).1
  refine wpAny_bind (wpAny_pure (wpAny_bind (wpAny_bind (wpAny_loadPart hx (wpAny_bind ((looks_clsIn X hc).here ?_))))))
  rw [hdct]
  refine wpAny_bind (wpAny_alloc' ?_)
  refine wpAny_bind (wpAny_update' (Heap.get?_push_of_some _ hx) ?_)
  refine wpAny_pure (wpAny_bind ?_)
  refine wpAny_pure ?_
  refine wpAny_bind ?_
  unfold nsSet
  refine wpAny_bind (wpAny_bind (wpAny_askSetting (wpAny_pure (wpAny_bind (wpAny_mkText (wpAny_bind (wpAny_loadPart D ?_)))))))
  dsimp only
  rw [aRefKeyMayBeTheName_at, show (!(#[] : Array DictEntry).any (·.key.isStr name) && (#[] : Array DictEntry).any (·.refKey)) = false from by simp]
  refine wpAny_updatePart (by exact D) ?_
  refine wpAny_bind (wpAny_lookBehind D' (pastItsLine_dict (by simp [putL, sizeLine_eq])) ?_)
  exact wpAny_pure (h _ _ t F3 (by rw [hg]; exact N3) lt)
end
end Mine
end
section
open PySem PySem.W PySem.Calls PyProof.Rows PySem.Spec
set_option maxRecDepth 100000
set_option linter.unusedVariables false
namespace Mine
section
variable {prog : Program} {w : World} {A : Around} {K : Frag} {C x : Addr} {s : Shared} {h₀ : Heap} {L : Addr} {m : Str → Option Value} {news : List (Addr × Obj)} {E : Value → Shared → Prop} {name : Str} {v : Value}

theorem set_plainE {ox : Obj} {Q : Unit → Shared → Prop} (X : K.In s.heap) (hx : s.heap.get? x = some ox) (hcl : ox.cls = .ref C)
    (hs : findIn K (.ref C) "__setattr__" = some (some (.builtin "object.__setattr__")))
    (h : codeAny (model prog w) A (.call (.builtin "object.__setattr__") ⟨[.ref x, .str name s.toks, v], []⟩) (fun r s' => match r with | .ok (.ret _) => Q () s' | .ok _ => False | .error e => E e s') { s with toks := s.toks + 1 }) :
    wpAny (model prog w) A (setAttr (.ref x) name v) Q E s := by
  have Ty : Looks (model prog w) s.heap (typeOf (.ref x)) (.ref C) := by rw [← hcl]; exact (Looks.ld hx).andThen .now
  refine wpAny_bind (wpAny_mkText (wpAny_bind (wpAny_bind (wpAny_bind (Ty _ _ _ _ (fun _ _ e => e) (looks_findIn X hs _ _ _ _ (fun _ _ e => e) (wpAny_holding ?_)))))))
  rw [PySem.F.store_object.slot.bind]
  refine wpAny_bind (wpAny_pure (wpAny_bind (wpAny_call (codeAny_mono h fun r s' z => ?_))))
  rcases r with e | (v | _ | _ | _) <;> first | exact z | exact wpAny_pure (wpAny_pure z)

theorem set_exc0 {vs : Array Value} {g : Obj → List (Addr × Obj)} {Q : Unit → Shared → Prop} (F : Fr h₀ L s.heap m) (X₀ : K.In h₀) (N : News h₀ L s.heap news) (U : UpdF x { cls := .ref C, data := .fields vs } news g)
    (hs : findIn K (.ref C) "__setattr__" = some (some (.builtin "object.__setattr__"))) (hp : excOver K C = true) (ht : takerIn K C name = some none)
    (h : ∀ d h' tk tk', Fr h₀ L h' m → News h₀ L h' ((d, dictOf [⟨PyData.keyHash w.params name, .str name tk', v⟩] 1) :: g { cls := .ref C, dict := some d, data := .fields vs }) → (∀ p ∈ news, p.1 < d) → Q () { s with heap := h', toks := tk }) :
    wpAny (model prog w) A (setAttr (.ref x) name v) Q E s := by
  have hx : s.heap.get? x = some { cls := .ref C, data := .fields vs } := by
    obtain ⟨pre, post, rfl, hg, h1, h2⟩ := U.split
    exact (N (x, _) (List.mem_append.mpr (.inr (.head _)))).1
  exact set_plainE (X₀.keeps F.keep) hx rfl hs (osa_newE (s := { s with toks := s.toks + 1 }) F N (X₀.keeps F.keep) hp ht U fun d h' tk' F' N' l => h d h' _ tk' F' N' l)

theorem set_exc1 {vs : Array Value} {dx : Addr} {g : Obj → List (Addr × Obj)} {es : List DictEntry} {es' : Tok → List DictEntry} {n n' : Nat} {Q : Unit → Shared → Prop} (F : Fr h₀ L s.heap m) (X₀ : K.In h₀) (N : News h₀ L s.heap news) (hx : (x, ({ cls := .ref C, dict := some dx, data := .fields vs } : Obj)) ∈ news) (U : UpdF dx (dictOf es n) news g)
    (hs : findIn K (.ref C) "__setattr__" = some (some (.builtin "object.__setattr__"))) (hp : excOver K C = true) (ht : takerIn K C name = some none)
    (hl : (getL name es).isSome = true) (e : ∀ tk', (putL name (PyData.keyHash w.params name) (.str name tk') v es, putN name es n) = (es' tk', n')) (hz : ∀ tk', (es' tk').length ≤ 1000)
    (h : ∀ h' tk tk', Fr h₀ L h' m → News h₀ L h' (g (dictOf (es' tk') n')) → Q () { s with heap := h', toks := tk }) :
    wpAny (model prog w) A (setAttr (.ref x) name v) Q E s :=
  set_plainE (X₀.keeps F.keep) (N _ hx).1 rfl hs (osa_dictE (s := { s with toks := s.toks + 1 }) F N (X₀.keeps F.keep) (N _ hx).1 rfl rfl hp ht hl U e hz fun h' tk' F' N' => h h' _ tk' F' N')

/-- Exception.__init__ called by its name -/
theorem exc_init {t0 : Addr} {newId : String} {vs : List Value} {g : Obj → List (Addr × Obj)} {Q : Value → Shared → Prop} (F : Fr h₀ L s.heap m) (X₀ : K.In h₀) (N : News h₀ L s.heap news) (U : UpdF x (excObj C t0) news g)
    (hm : ExcMk K C "Exception" newId) (hvs : vs.length ≤ sizeLine)
    (h : ∀ t h', Fr h₀ L h' m → News h₀ L h' ((t, tupleOf vs) :: g (excObj C t)) → (∀ p ∈ news, p.1 < t) → Q .none { s with heap := h' }) :
    wpAny (model prog w) A (call (.builtin "Exception.__init__") (.ref x :: vs)) Q E s := by
  have Fa := PySem.F.excBase_Exception
  obtain ⟨pre, post, rfl, hg, h1, h2⟩ := U.split
  have X := X₀.keeps F.keep
  obtain ⟨hh, gg, d, t, os⟩ := s
  have hx := (N (x, excObj C t0) (List.mem_append.mpr (.inr (.head _)))).1
  obtain ⟨⟨_, hC, ⟨nm, q, NN, bs, bm, hdct, sn, sub, ab, col, dd, k0, k1, k2, k3, k5, hB, hAt, hNm, hBE⟩⟩, _, _⟩ := excFacts_of (M := model prog w) X hm
  have hcB : (Value.ref C :: bm).contains (.type "Exception") = true := by rw [List.contains_cons, hB, Bool.or_true]
  have lt : ∀ p ∈ pre ++ (x, excObj C t0) :: post, p.1 < hh.objs.size := fun p hp => Heap.lt_size (N p hp).1
  have F1 := F.push (tupleOf vs)
  have N1 := N.push F (tupleOf vs)
  have hxs : @Ne Nat hh.objs.size x := Nat.ne_of_gt (lt (x, _) (List.mem_append.mpr (.inr (.head _))))
  obtain ⟨F2, N2⟩ := news_upd (f := Obj.mapFields (·.setIfInBounds 0 (.ref hh.objs.size))) (pre := (hh.objs.size, tupleOf vs) :: pre) (post := post) F1 N1 (fun p hp => by
    rcases List.mem_cons.mp hp with rfl | hp
    · exact hxs
    · exact h1 p hp) h2 (o' := excObj C hh.objs.size) rfl rfl
  refine wpAny_call (codeAny_call_builtin Fa.init.plain Fa.initEntry ?_)
  have hshort := Fa.noStar
  simp only [checkBuiltinCall, Fa.initKind, Fa.initSplit, Fa.initRow]
  repeat (first | (with_reducible refine wpAny_loadPart_at hx ?_) | with_reducible refine wpAny_loadPart_at hC ?_ | (with_reducible refine wpAny_isSubtype_exc hC ?_; rw [hcB]) | wp_step)
  refine wpAny_onRaise ?_
  rw [show ∀ (a b : String) (n : Nat), Bind.check ⟨.positional, "*", "Exception", .self, [⟨"args", .varPos, false⟩]⟩ a b n (List.map (fun x => x.fst) ({ pos := Value.ref x :: vs } : Args).kw) = pure () from
    fun a b n => check_star_args _ _ _ _ _ _]
  refine wpAny_pure ?_
  wp_walk
  exact h _ _ F2 (by rw [hg]; exact N2) lt
end
end Mine
end
section
open PySem PySem.W PySem.Calls PyProof.Rows PySem.Spec
set_option maxRecDepth 100000
set_option linter.unusedVariables false
namespace Mine

noncomputable abbrev excObjD (C t : Addr) (dx : Option Addr) : Obj := { cls := .ref C, dict := dx, data := .fields #[.ref t, .none, .none, .none, .bool false, .none] }

noncomputable def RaisableE (M : Model) (C : Addr) (newId : String) (E : Value → Shared → Prop) (v : Value) (s₁ : Shared) : Prop :=
  ∃ e t dx, v = .ref e ∧ s₁.heap.get? e = some (excObjD C t dx) ∧ ExcFacts M s₁.heap C "Exception" newId ∧ E (.ref e) s₁

section
variable {M : Model} {A : Around} {E : Value → Shared → Prop} {s : Shared} {env : Env} {C : Addr} {newId : String}
theorem raise_ownE {ex : Expr} {pos : Pos} {Q : Flow → Shared → Prop} (hh : A.handled = none)
    (h : wpAny M A (eval ex env) (RaisableE M C newId E) E s) : wpAny M A (exec (.Raise (some ex) none pos) env) Q E s := by
  show wpAny M A (do standAt pos; raiseStmt env (some (do let v ← eval ex env; standAt pos; pure v)) none) Q E s
  refine wpAny_bind (wpAny_standAt ?_)
  unfold raiseStmt
  dsimp only
  refine wpAny_bind (wpAny_bind (wpAny_mono h (fun v s₁ h₁ => wpAny_bind (wpAny_standAt (wpAny_pure ?_))) fun _ _ x => x))
  obtain ⟨e, t, dx, rfl, he, ⟨⟨_, hC, ⟨nm, q, NN, bs, bm, hdct, sn, sub, ab, col, dd, k0, k1, k2, k3, k5, hB, hAt, hNm, hBE⟩⟩, _, _⟩, hE⟩ := h₁
  have hcB : (Value.ref C :: bm).contains (.type "BaseException") = true := by rw [List.contains_cons, hBE, Bool.or_true]
  obtain ⟨hp, g, d, tk, os⟩ := s₁
  repeat (first | with_reducible refine wpAny_loadPart_at he ?_ | with_reducible refine wpAny_loadPart_at hC ?_ | (with_reducible refine wpAny_isSubtype_exc hC ?_; rw [hcB]) | wp_step)
  exact wpAny_raiseNew_none hh hE
end

section
variable {prog : Program} {w : World} {K : Frag} {C x : Addr} {s : Shared} {h₀ : Heap} {L : Addr} {m : Str → Option Value} {news : List (Addr × Obj)} {E : Value → Shared → Prop} {newId : String}
theorem raisableE {t : Addr} {dx : Option Addr} (F : Fr h₀ L s.heap m) (X₀ : K.In h₀) (N : News h₀ L s.heap news) (hx : (x, excObjD C t dx) ∈ news) (hm : ExcMk K C "Exception" newId) (hE : E (.ref x) s) :
    RaisableE (model prog w) C newId E (.ref x) s := ⟨x, t, dx, rfl, (N _ hx).1, excFacts_of (X₀.keeps F.keep) hm, hE⟩
end

section
variable {M : Model} {A : Around} {E : Value → Shared → Prop} {s' : Shared} {base g : Heap} {outer : List Env} {L a e t C : Addr} {m : Str → Option Value} {name : Str} {scope : Scope} {cd : Value} {Q : Unit → Shared → Prop} {news news' : List (Addr × Obj)}
theorem leave_ownS {vs : List Value} {dx : Option Addr} (K : Below A base outer g) (F : Fr g L s'.heap m) (N : News g L s'.heap news) (he : (e, excObjD C t dx) ∈ news) (ht : (t, tupleOf vs) ∈ news)
    (hs : ∀ q ∈ news', q ∈ news) (h1 : ∀ q ∈ news', q.1 ≠ e) (h2 : ∀ q ∈ news', q.1 ≠ t)
    (hQ : ∀ h', RaisedS base g outer e (.ref C) t vs news' h' → g.UpToSlots h' → Q () { s' with heap := h' }) (hk : scope.kind = .function := by rfl) :
    wpAny M (A.deeper (envOf name scope L a cd)) (leaving (envOf name scope L a cd) (.ref e)) Q E s' := by
  have K' := K.push (name := name) (a := a) (cd := cd) F hk
  let as := e :: t :: (envOf name scope L a cd :: outer).filterMap (·.frame)
  have hin : ∀ env ∈ (envOf name scope L a cd :: outer), ∀ b, env.frame = some b → b ∈ as := fun env he b hb => .tail _ (.tail _ (List.mem_filterMap.mpr ⟨env, he, hb⟩))
  have gn : ∀ q ∈ news, g.get? q.1 = none := fun q hq => (N q hq).2.2
  have bn : ∀ q ∈ news, base.get? q.1 = none := fun q hq => fresh_of_stays K.stays (N q hq).2.2
  have st : base.StaysIn (hideAll s'.heap as) := fun b o q => hideAll_get _ (K'.stays b o q) fun hm => by
    rcases List.mem_cons.mp hm with rfl | hm
    · rw [bn _ he] at q; cases q
    rcases List.mem_cons.mp hm with rfl | hm
    · rw [bn _ ht] at q; cases q
    rw [(K'.frames.mem hm).1] at q; cases q
  have sg : ∀ b o, g.get? b = some o → b ∉ outer.filterMap (·.frame) → (hideAll s'.heap as).get? b = some o := fun b o q nm => hideAll_get _ (F.keep b o q) fun hm => by
    rcases List.mem_cons.mp hm with rfl | hm
    · rw [gn _ he] at q; cases q
    rcases List.mem_cons.mp hm with rfl | hm
    · rw [gn _ ht] at q; cases q
    rcases kts_mem hm with z | z
    · rw [z, kts_self F] at q; cases q
    · exact nm z
  have hl : ∀ q ∈ news', (hideAll s'.heap as).get? q.1 = some q.2 ∧ g.get? q.1 = none ∧ base.get? q.1 = none := fun q hq => by
    refine ⟨hideAll_get _ (N q (hs q hq)).1 fun hm => ?_, gn q (hs q hq), bn q (hs q hq)⟩
    rcases List.mem_cons.mp hm with hm | hm
    · exact h1 q hq hm
    rcases List.mem_cons.mp hm with hm | hm
    · exact h2 q hq hm
    obtain ⟨env, hev, hf⟩ := List.mem_filterMap.mp hm
    rcases List.mem_cons.mp hev with rfl | hev
    · exact (N q (hs q hq)).2.1 (Option.some.inj hf).symm
    · obtain ⟨o, ho, _⟩ := (K.frames.mem (List.mem_filterMap.mpr ⟨env, hev, hf⟩)).2
      rw [(N q (hs q hq)).2.2] at ho; cases ho
  have hen : (hideAll s'.heap as).get? e = none := hideAll_none _ (.head _)
  have htn : (hideAll s'.heap as).get? t = none := hideAll_none _ (.tail _ (.head _))
  refine wpAny_leaving_firstW (a0 := .ref t) K'.stack (funFrames_hide K'.frames hin) rfl (N _ he).1 (fun b o q => of_hideAll _ q) hen rfl rfl rfl fun h' hL => ?_
  obtain ⟨x1, ⟨_, _, x2⟩, x3, x4⟩ := hL
  exact hQ h' ⟨⟨_, st, sg, hl, ⟨x1, hen, x2, x3⟩, htn⟩, Heap.TupAt.of_slots ⟨_, _, (N _ ht).1, rfl, rfl⟩ x4⟩ ((Heap.UpToSlots.of_keeps F.keep).trans x4)
end
end Mine
end
section
open PySem PySem.W PySem.Calls PyProof.Rows PySem.Spec
set_option maxRecDepth 100000
set_option linter.unusedVariables false
namespace Mine
section
variable {prog : Program} {w : World} {A₀ A : Around} {s : Shared} {base h₀ : Heap} {L : Addr} {m : Str → Option Value} {env : Env} {news : List (Addr × Obj)} {K : Frag} {p : Program} {loose : List Str} {mean : ExcName → Option Value} {mg mb : Str → Option Value}
    {R : Result → Shared → Prop} {name qual : Str} {params : Arguments} {body : List Stmt} {scope : Scope} {dV kV doc pm cdv ct oc : Value} {an od : Option Addr} {osl : Array (Option Value)} {f : Addr} {args : Args} {binds : List (Str × Value)}
/-- a helper that catches, entered from the outermost frame, whatever cells that frame has -/
theorem enter_S0 (B : Below A₀ base [] h₀) (F : Fr h₀ L s.heap m) (X₀ : K.In h₀) (N : News h₀ L s.heap news) (T : Top p loose mean mg mb h₀) (hA : A.frames = some [env]) (hf : env.frame = some L) (hke : env.scope.kind = .function)
    (ho : K.lookup f = some ⟨oc, od, .func (fnOf name qual params body scope dV kV doc pm an cdv ct), osl⟩) (hcd : codeIn K cdv qual = true) (hroom : A.depth < recursionLimit)
    (hbind : BindsTo s (fnOf name qual params body scope dV kV doc pm an cdv ct) args binds) (hloc : ∀ y ∈ binds, scope.names.lookup y.1 = some .local)
    (h : ∀ g L' h₁, Fr h₀ L g m → Fr g L' h₁ (fun y => binds.reverse.lookup y) → News g L' h₁ news → Below A base [env] g → K.In g → Top p loose mean mg mb g → KtsDicts ([env].filterMap (·.frame)) g →
      wpAny (model prog w) (A.deeper (envOf qual scope L' f cdv)) (execs body (envOf qual scope L' f cdv))
        (fun fl s' => LeaveS0 ([env].filterMap (·.frame)) h₀ L m g R (match fl with | .ret v => v | _ => .none) s')
        (fun e s' => wpAny (model prog w) (A.deeper (envOf qual scope L' f cdv)) (leaving (envOf qual scope L' f cdv) e) (fun _ s'' => R (.error e) s'') (fun e' s'' => R (.error e') s'') s')
        { s with heap := h₁, toks := s.toks + binds.length })
    (hco : scope.isCoroutine = false) (hgen : scope.isGenerator = false) (hk : scope.kind = .function)
    (hcell : ∀ x ∈ scope.names, x.2 ≠ .cell) : codeAny (model prog w) A (.call (.ref f) args) R s := by
  have X := X₀.keeps F.keep
  have hfs : [env].filterMap (·.frame) = [L] := by simp [hf]
  have nL₀ : h₀.get? L = none := kts_self F
  refine codeAny_call_def (fd := fnOf name qual params body scope dV kV doc pm an cdv ct) (body := body) (binds := binds) hroom (X _ _ ho) rfl (T.nolimit.keeps F.keep) (codeRec_of X hcd) rfl hbind hcell hloc (fun h₁ hns hk₁ => ?_) hco hgen hk
  have nm : ∀ b o, h₀.get? b = some o → b ∉ news.map (·.1) := fun b o e q => by
    obtain ⟨p, hp, rfl⟩ := List.mem_map.mp q
    rw [(N p hp).2.2] at e; cases e
  have st : h₀.StaysIn (hideAll s.heap (news.map (·.1))) := fun b o e => hideAll_get _ (F.keep b o e) (nm b o e)
  obtain ⟨oL, es, ep, hL, hLd, hLk, hLf⟩ := F.ns
  have nL : L ∉ news.map (·.1) := fun q => by
    obtain ⟨p, hp, e⟩ := List.mem_map.mp q
    exact (N p hp).2.1 e
  have hLg := hideAll_get (news.map (·.1)) hL nL
  have B₂ : Below A base [env] (hideAll s.heap (news.map (·.1))) :=
    ⟨hA, fun b o e => st b o (B.stays b o e), ⟨by rw [hke]; decide, ⟨L, oL, hf, fresh_of_stays B.stays nL₀, hLg, fun vs e => by rw [hLd] at e; cases e⟩, trivial⟩⟩
  refine wpAny_mono (h _ s.heap.objs.size h₁ ⟨⟨oL, es, ep, hLg, hLd, hLk, hLf⟩, st, F.above⟩ ⟨hns, fun b o e => hk₁ b o (of_hideAll _ e), Nat.le_of_eq (hideAll_size _ _)⟩
    (fun p hp => ⟨hk₁ _ _ (N p hp).1, Nat.ne_of_lt (Heap.lt_size (N p hp).1), hideAll_none _ (List.mem_map_of_mem hp)⟩) B₂ (X₀.keeps st) (T.keeps st) (fun b hb => by
      rw [hfs] at hb
      rw [List.mem_singleton.mp hb]
      exact ⟨oL, es, ep, hLg, hLd⟩)) (fun fl s' hl => ?_) fun _ _ y => y
  obtain ⟨g', L', m', news', T', F', N', k⟩ := hl
  rw [hfs] at T'
  obtain ⟨sl, hs⟩ := T'.up hLg
  refine k ⟨⟨_, es, ep, F'.keep _ _ hs, hLd, hLk, hLf⟩, fun b o e => F'.keep b o (T'.other b o (st b o e) (fun q => by
    rw [List.mem_singleton.mp q, nL₀] at e; cases e)), F.above⟩ fun p hp => ⟨(N' p hp).1, fun q => ?_, ?_⟩
  · have := (N' p hp).2.2; rw [q, hs] at this; cases this
  · cases q : h₀.get? p.1 with
    | none => rfl
    | some o =>
      obtain ⟨sl', hs'⟩ := T'.up (st _ _ q)
      have := (N' p hp).2.2
      rw [hs'] at this
      cases this
end
end Mine
end
open PySem PySem.W PySem.Calls PyProof.Rows
namespace Mine
local macro_rules | `(tactic| walk_at $s:str) => `(tactic| k_extra $s)
local macro_rules | `(tactic| k_room) => `(tactic| ktr_room)
local macro_rules | `(tactic| k_units) => `(tactic| ktr_units)
local macro_rules | `(tactic| k_updF) => `(tactic| k_extra "updF")
local macro_rules | `(tactic| k_upd) => `(tactic| k_extra "upd")
local macro_rules | `(tactic| k_all) => `(tactic| k_extra "all")
local macro_rules | `(tactic| k_lt $_) => `(tactic| k_extra "lt")
local macro_rules | `(tactic| k_lt2 $_) => `(tactic| k_extra "lt2")
section
open PySem PySem.W PySem.Calls PyProof.Rows
set_option maxRecDepth 100000
theorem g0 (a : Int) (l : List Int) (d : Int) : (a :: l).getD (Int.toNat 0) d = a := rfl
theorem g1 (a b : Int) (l : List Int) (d : Int) : (a :: b :: l).getD (Int.toNat 1) d = b := rfl
theorem mulok_fmod {a k x : Int} (h : 0 < k) (h' : k < 2 ^ 64) : IntMulOk (a.fmod k) x :=
  IntMulOk.of_left (intBits_le_64 (by have := fmod_lo a h; omega) (by have := fmod_hi a h; omega))

noncomputable def srcRet (sa : Addr) (rest : List (Addr × Obj)) (top : Int) (r : Value) (news' : List (Addr × Obj)) : Prop :=
  ∃ (b m d : Int) (t1 t2 t3 : Tok) (n : Nat), r = .int d t1 ∧ 0 ≤ d ∧ d < top ∧ 0 ≤ b ∧ 0 ≤ m ∧ m < 2147483647 ∧ news' = (sa, listOf #[.int b t2, .int m t3] n) :: rest

theorem fdiv_nonneg' {b top : Int} (hb : 0 ≤ b) (ht : 0 < top) : 0 ≤ b.fdiv top := Int.fdiv_nonneg hb (by omega)

local macro_rules | `(tactic| mul_fits) => `(tactic| k_extra "mulfits")

set_option maxHeartbeats 8000000 in
theorem take_ok (w : World) (sa : Addr) (b m top : Int) (t1 t2 t3 : Tok) (n : Nat) (rest : List (Addr × Obj)) (ho : OwnOff rest [sa])
    (hb : 0 ≤ b) (hm : 0 ≤ m) (hm' : m < 2147483647) (ht : 0 < top) (ht' : top < 2 ^ 20) :
    Claim w 2 187 [.ref sa, .int top t1] ((sa, listOf #[.int b t2, .int m t3] n) :: rest) (srcRet sa rest top) := by
  unfold Claim
  k_with_none
  w_top off
  k_with "om" => (first | k_extra "proj" | lia | omega (config := {}))
  k_with "pj" => (first | assumption | exact And.left (by assumption) | exact And.left (And.right (by assumption)) | exact And.left (And.right (And.right (by assumption))) | exact And.left (And.right (And.right (And.right (by assumption)))) | exact And.left (And.right (And.right (And.right (And.right (by assumption))))) | exact And.left (And.right (And.right (And.right (And.right (And.right (by assumption)))))) | exact And.left (And.right (And.right (And.right (And.right (And.right (And.right (by assumption))))))) | exact And.left (And.right (And.right (And.right (And.right (And.right (And.right (And.right (by assumption)))))))) | exact And.left (And.right (And.right (And.right (And.right (And.right (And.right (And.right (And.right (by assumption))))))))) | exact And.left (And.right (And.right (And.right (And.right (And.right (And.right (And.right (And.right (And.right (by assumption)))))))))) | exact And.left (And.right (And.right (And.right (And.right (And.right (And.right (And.right (And.right (And.right (And.right (by assumption))))))))))) | exact And.left (And.right (And.right (And.right (And.right (And.right (And.right (And.right (And.right (And.right (And.right (And.right (by assumption)))))))))))) | exact And.left (And.right (And.right (And.right (And.right (And.right (And.right (And.right (And.right (And.right (And.right (And.right (And.right (by assumption))))))))))))) | exact And.left (And.right (And.right (And.right (And.right (And.right (And.right (And.right (And.right (And.right (And.right (And.right (And.right (And.right (by assumption)))))))))))))) | exact And.right (by assumption) | exact And.right (And.right (by assumption)) | exact And.right (And.right (And.right (by assumption))) | exact And.right (And.right (And.right (And.right (by assumption)))) | exact And.right (And.right (And.right (And.right (And.right (by assumption))))) | exact And.right (And.right (And.right (And.right (And.right (And.right (by assumption)))))) | exact And.right (And.right (And.right (And.right (And.right (And.right (And.right (by assumption))))))) | exact And.right (And.right (And.right (And.right (And.right (And.right (And.right (And.right (by assumption)))))))) | exact And.right (And.right (And.right (And.right (And.right (And.right (And.right (And.right (And.right (by assumption))))))))) | exact And.right (And.right (And.right (And.right (And.right (And.right (And.right (And.right (And.right (And.right (by assumption)))))))))) | exact And.right (And.right (And.right (And.right (And.right (And.right (And.right (And.right (And.right (And.right (And.right (by assumption))))))))))) | exact And.right (And.right (And.right (And.right (And.right (And.right (And.right (And.right (And.right (And.right (And.right (And.right (by assumption)))))))))))) | exact And.right (And.right (And.right (And.right (And.right (And.right (And.right (And.right (And.right (And.right (And.right (And.right (And.right (by assumption))))))))))))))
  k_with "proj" => (first
    | (with_reducible assumption)
    | ((with_reducible show @Ne Nat _ _); (with_reducible first
      | (refine Nat.ne_of_gt ?_; k_extra "pj")
      | (refine Nat.ne_of_lt ?_; k_extra "pj")
      | (refine Nat.ne_of_gt (Nat.lt_trans ?_ (by assumption)); k_extra "pj")
      | (refine Nat.ne_of_lt (Nat.lt_trans ?_ (by assumption)); k_extra "pj")
      | k_extra "pj"
      | (refine Ne.symm ?_; k_extra "pj")
      | (first | exact And.left (And.left (by assumption)) | exact And.left (And.right (And.left (by assumption))) | exact And.right (And.right (And.left (by assumption))) | exact And.left (And.left (And.right (by assumption))) | exact And.left (And.right (And.left (And.right (by assumption)))) | exact And.right (And.right (And.left (And.right (by assumption)))) | exact And.left (And.left (And.right (And.right (by assumption)))) | exact And.left (And.right (And.left (And.right (And.right (by assumption))))) | exact And.right (And.right (And.left (And.right (And.right (by assumption))))) | exact And.left (And.left (And.right (And.right (And.right (by assumption))))) | exact And.left (And.right (And.left (And.right (And.right (And.right (by assumption)))))) | exact And.right (And.right (And.left (And.right (And.right (And.right (by assumption)))))) | exact And.left (And.left (And.right (And.right (And.right (And.right (by assumption)))))) | exact And.left (And.right (And.left (And.right (And.right (And.right (And.right (by assumption))))))) | exact And.right (And.right (And.left (And.right (And.right (And.right (And.right (by assumption))))))) | exact And.left (And.left (And.right (And.right (And.right (And.right (And.right (by assumption))))))) | exact And.left (And.right (And.left (And.right (And.right (And.right (And.right (And.right (by assumption)))))))) | exact And.right (And.right (And.left (And.right (And.right (And.right (And.right (And.right (by assumption)))))))))
      | (refine Ne.symm ?_; (first | exact And.left (And.left (by assumption)) | exact And.left (And.right (And.left (by assumption))) | exact And.right (And.right (And.left (by assumption))) | exact And.left (And.left (And.right (by assumption))) | exact And.left (And.right (And.left (And.right (by assumption)))) | exact And.right (And.right (And.left (And.right (by assumption)))) | exact And.left (And.left (And.right (And.right (by assumption)))) | exact And.left (And.right (And.left (And.right (And.right (by assumption))))) | exact And.right (And.right (And.left (And.right (And.right (by assumption))))) | exact And.left (And.left (And.right (And.right (And.right (by assumption))))) | exact And.left (And.right (And.left (And.right (And.right (And.right (by assumption)))))) | exact And.right (And.right (And.left (And.right (And.right (And.right (by assumption)))))) | exact And.left (And.left (And.right (And.right (And.right (And.right (by assumption)))))) | exact And.left (And.right (And.left (And.right (And.right (And.right (And.right (by assumption))))))) | exact And.right (And.right (And.left (And.right (And.right (And.right (And.right (by assumption))))))) | exact And.left (And.left (And.right (And.right (And.right (And.right (And.right (by assumption))))))) | exact And.left (And.right (And.left (And.right (And.right (And.right (And.right (And.right (by assumption)))))))) | exact And.right (And.right (And.left (And.right (And.right (And.right (And.right (And.right (by assumption))))))))))))
    | ((with_reducible show @LT.lt Nat _ _ _); (with_reducible k_extra "pj"))
    | ((with_reducible show @LE.le Nat _ _ _); (with_reducible first | exact Nat.le_refl _ | (refine Nat.le_of_lt ?_; k_extra "pj")))
    | ((with_reducible refine And.intro ?_ ?_) <;> omega)
    | (with_reducible (first | assumption | exact And.left (by assumption) | exact And.left (And.right (by assumption)) | exact And.left (And.right (And.right (by assumption))) | exact And.right (by assumption) | exact And.right (And.right (by assumption)))))
  k_with "updF" => k_dflt (rename Ap _ _ => hAp9; first | exact upd0 hAp9 | exact upd1 hAp9 | exact upd2 hAp9 | exact upd3 hAp9 | exact upd4 hAp9 | exact upd5 hAp9 | exact upd6 hAp9 | exact upd7 hAp9 | exact upd8 hAp9 | exact upd9 hAp9 | exact upd10 hAp9 | exact upd11 hAp9 | exact upd12 hAp9 | exact upd13 hAp9 | exact upd14 hAp9 | exact upd15 hAp9)
  k_with "upd" => k_dflt (rename Ap _ _ => hAp9; first | exact upe0 hAp9 | exact upe1 hAp9 | exact upe2 hAp9 | exact upe3 hAp9 | exact upe4 hAp9 | exact upe5 hAp9 | exact upe6 hAp9 | exact upe7 hAp9 | exact upe8 hAp9 | exact upe9 hAp9 | exact upe10 hAp9 | exact upe11 hAp9 | exact upe12 hAp9 | exact upe13 hAp9 | exact upe14 hAp9 | exact upe15 hAp9)
  k_with "lt" => ((rename (∀ p ∈ _, _ < _) => hL9); (try (rename Ap _ _ => hAp9; have hRaw := hL9; have hAp := Ap.push hAp9 hL9 rfl)); replace hL9 := allLt_of hL9; dsimp only [AllLt] at hL9)
  k_with "lt2" => ((with_reducible rename @LT.lt Nat _ _ _ => hL8); replace hL8 := ltN hL8; (try (rename Ap _ _ => hAp9; rename (∀ p ∈ _, _ < _) => hRaw9; have hAp := Ap.push2 hAp9 hRaw9 rfl hL8)))
  k_with "all" => (first | exact allLt_ne (by assumption) (by omega) | exact lt_neG (by assumption) (by omega))
  k_with "allmem" => (first | (with_reducible exact List.forall_mem_nil _) | ((with_reducible refine List.forall_mem_cons.mpr (And.intro ?_ ?_)); (focus k_mem); walk_at "allmem") | (intro p hp; (repeat (first | exact hp | apply List.mem_cons_of_mem)); done))
  k_with "storeName int" => k_dflt (refine' store_int ?gqF ?gqN ?_ ?gqa ?gqb; (case gqF => k_asm); (case gqN => k_asm); (case gqa => rfl); (case gqb => rfl); k_whole; intro t' h' tk' F' N'; (try k_sweep))
  k_with "storeName" => k_dflt (refine' store_any ?gqF ?gqN ?_ ?gqa ?gqb; (case gqF => k_asm); (case gqN => k_asm); (case gqa => rfl); (case gqb => rfl); k_whole; intro h' tk' F' N'; (try k_sweep))
  k_with "newTuple" => (k_dflt (first
    | (refine' tup_2 ?gqF ?gqN ?_; (case gqF => k_asm); (case gqN => k_asm); k_whole; intro t1' t2' D' h' tk' F' N' l1)
    | (refine' tup_3 ?gqF ?gqN ?_; (case gqF => k_asm); (case gqN => k_asm); k_whole; intro t1' t2' t3' D' h' tk' F' N' l1)
    | (refine' tup_any ?gqF ?gqN ?_ ?gqz; (case gqF => k_asm); (case gqN => k_asm); (case gqz => exact Nat.le_of_ble_eq_true rfl); k_whole; intro D' h' tk' F' N' l1)); (try k_lt l1); (try k_sweep))
  k_with "newList" => (k_dflt (first
    | (refine' list_4 ?gqF ?gqN ?_; (case gqF => k_asm); (case gqN => k_asm); k_whole; intro t1' t2' t3' t4' D' h' tk' F' N' l1)
    | (refine' list_1 ?gqF ?gqN ?_; (case gqF => k_asm); (case gqN => k_asm); k_whole; intro t1' D' h' tk' F' N' l1)
    | (refine' list_any ?gqF ?gqN ?_ ?gqz; (case gqF => k_asm); (case gqN => k_asm); (case gqz => exact Nat.le_of_ble_eq_true rfl); k_whole; intro D' h' tk' F' N' l1)); (try k_lt l1); (try k_sweep))
  k_with "exec Assign cons Call" => k_fold
  k_with "exec Assign cons Tuple" => k_fold
  k_with "exec If BoolOp cons nil" => k_fold
  k_with "exec If UnaryOp cons nil" => k_fold
  k_with "exec If Compare cons nil" => k_fold
  k_with "exec Assign cons BinOp" => k_fold
  k_with "exec Expr Call" => k_fold
  k_with "exec Assign cons Compare" => k_fold
  k_with "exec Assign cons Subscript" => k_fold
  k_with "exec If Name cons nil" => k_fold
  k_with "gx" => k_dflt (first
    | exact gv_int
    | (refine' gv_name ?gqF ?gqv ?gqa ?gqb ?gqc; (case gqF => k_asm); (case gqa => rfl); (case gqb => rfl); (case gqv => exact @rfl _ (some _)); (case gqc => decide))
    | (refine' gv_cell ?gqN ?gqc ?gqm ?gqd ?gqa ?gqb ?gqe; (case gqa => rfl); (case gqb => rfl); (case gqN => k_asm); (case gqc => rfl); (case gqm => k_mem); (case gqd => k_asm); (case gqe => decide))
    | (refine' gv_glob ?gqF ?gqX ?gqT ?gqe ?gqa ?gqb ?gqc; (case gqF => k_asm); (case gqX => k_asm); (case gqT => k_asm); (case gqa => rfl); (case gqb => rfl); (case gqe => k_is); (case gqc => decide))
    | (refine' gv_add ?gqg ?gqh; (case gqg => k_extra "gx"); (case gqh => k_extra "gx"))
    | (refine' gv_sub ?gqg ?gqh; (case gqg => k_extra "gx"); (case gqh => k_extra "gx"))
    | (refine' gv_attr ?gqg ?gqk1 ?gqk2 ?gqk3 ?gqk4 ?gqk5 ?gqk6 ?gqk7 ?gqk8 ?gqk9 ?gqe; (case gqg => k_extra "gx"); (case gqk1 => k_asm); (case gqk2 => k_asm); (case gqk3 => k_inst); (case gqk4 => k_is); (case gqk5 => k_is); (case gqk6 => k_is); (case gqk7 => k_is); (case gqk8 => k_get); (case gqk9 => k_handed); (case gqe => with_unfolding_all rfl)))
  k_with "gl" => k_dflt (first
    | exact gl_nil
    | (refine' gl_cons ?gqg ?gqh ?gqe; (case gqe => rfl); (case gqg => k_extra "gx"); (case gqh => k_extra "gl")))
  k_with "callWith ref" => (k_dflt (refine' callWith_gv ?gqX ?gqF ?gqk ?gqg ?_ ?gqe ?gqp; (case gqX => k_asm); (case gqF => k_asm); (case gqk => k_is); (case gqe => rfl); (case gqp => rfl); (case gqg => k_extra "gl"); k_whole); (try dsimp only [List.nil_append, List.cons_append]))
  k_with "eval Call Name cons nil" => k_dflt (refine' call_gv ?gqX ?gqF ?gqf ?gqk ?gqg ?_ ?gqc ?gqe ?gqp; (case gqX => k_asm); (case gqF => k_asm); (case gqc => rfl); (case gqe => rfl); (case gqp => rfl); (case gqf => k_extra "gx"); (case gqk => k_is); (case gqg => k_extra "gl"); k_whole)
  k_with "eval Name" => k_dflt (refine' nameX_L ?gqF ?gqv ?_ ?gqa ?gqb ?gqc; (case gqF => k_asm); (case gqa => rfl); (case gqb => rfl); (case gqv => exact @rfl _ (some _)); (case gqc => decide); k_whole)
  k_with "spliced" => (k_dflt (refine' spliced_gv ?gqg ?_; (case gqg => k_extra "gl"); k_whole); (try dsimp only [List.nil_append, List.cons_append]))
  k_with "eval BinOp" => k_dflt (refine' eval_gv ?gqg ?_; (case gqg => k_extra "gx"); k_whole)
  k_with "eval Attribute Name" => k_dflt (refine' eval_gv ?gqg ?_; (case gqg => k_extra "gx"); k_whole)
  k_with "cmp" => k_dflt (first
    | ((with_reducible show wpAny _ _ (isTrue (Expr.Compare _ [CmpOp.Lt] [_] _) _ _) _ _ _); refine' ts_lt ?gqg ?gqh ?_ ?gqm; (case gqm => with_unfolding_all rfl); (case gqg => k_extra "gx"); (case gqh => k_extra "gx"); k_whole)
    | ((with_reducible show wpAny _ _ (isTrue (Expr.Compare _ [CmpOp.LtE] [_] _) _ _) _ _ _); refine' ts_le ?gqg ?gqh ?_ ?gqm; (case gqm => with_unfolding_all rfl); (case gqg => k_extra "gx"); (case gqh => k_extra "gx"); k_whole)
    | ((with_reducible show wpAny _ _ (isTrue (Expr.Compare _ [CmpOp.Gt] [_] _) _ _) _ _ _); refine' ts_gt ?gqg ?gqh ?_ ?gqm; (case gqm => with_unfolding_all rfl); (case gqg => k_extra "gx"); (case gqh => k_extra "gx"); k_whole)
    | ((with_reducible show wpAny _ _ (isTrue (Expr.Compare _ [CmpOp.GtE] [_] _) _ _) _ _ _); refine' ts_ge ?gqg ?gqh ?_ ?gqm; (case gqm => with_unfolding_all rfl); (case gqg => k_extra "gx"); (case gqh => k_extra "gx"); k_whole)
    | ((with_reducible show wpAny _ _ (isTrue (Expr.Compare _ [CmpOp.Eq] [_] _) _ _) _ _ _); refine' ts_eq ?gqg ?gqh ?_ ?gqm; (case gqm => with_unfolding_all rfl); (case gqg => k_extra "gx"); (case gqh => k_extra "gx"); k_whole)
    | ((with_reducible show wpAny _ _ (isTrue (Expr.Compare _ [CmpOp.NotEq] [_] _) _ _) _ _ _); refine' ts_ne ?gqg ?gqh ?_ ?gqm; (case gqm => with_unfolding_all rfl); (case gqg => k_extra "gx"); (case gqh => k_extra "gx"); k_whole))
  k_with "isTrue Compare Name" => k_extra "cmp"
  k_with "isTrue Compare Constant" => k_extra "cmp"
  k_with "isTrue Compare BinOp" => k_extra "cmp"
  k_with "isTrue Compare Attribute" => k_extra "cmp"
  k_with "enter" => (refine' code_any ?k1 ?k2 ?k3 ?k4 ?k5 ?kA ?kF ?kK ?k6 ?k7 ?k8 ?k9 ?kB ?_ ?c2 ?c3 ?c4 ?c5; (case kA => exact rfl); (case kF => exact rfl); (case kK => first | exact rfl | assumption); (case k1 => k_asm); (case k2 => k_asm); (case k3 => k_asm); (case k4 => k_asm); (case k5 => k_asm); (case k6 => k_is); (case k7 => k_is); (case k8 => k_room); (case k9 => first | exact BindsTo.of_eq rfl | exact binds_K (by k_in) rfl (by k_is) rfl rfl rfl); (case c5 => decide); (case kB => exact locs rfl); (case c2 => exact rfl); (case c3 => exact rfl); (case c4 => exact rfl); k_whole; intro g' L' h' tk' FG' F' N' B' X' T'; (try dsimp only); (try k_lift B'); (try k_fold))
  k_with "clsnew" => k_dflt (refine' call_cls ?k1 ?k2 ?k3 ?k4 ?k5 ?k6 ?_; (case k1 => k_asm); (case k2 => k_asm); (case k3 => k_asm); (case k4 => k_is); (case k5 => k_is); (case k6 => k_is); k_whole; intro x' d' h' F' N' l1 l2; (try k_lt l1); (try k_lt2 l2); (try k_sweep); k_extra "enter")
  k_with "mulfits" => (simp only [g0, g1]; exact mulok_fmod (by decide) (by decide))
  k_fill
  intro mean mg mb dp un gd cn cs a ccd cl outer A₀ base h₀ L m s Q E B F X N T hk hd hu hret
  refine wpAny_call ?_
  k_dflt (k_extra "enter")
  k_steps
  · refine hret _ _ _ _ ?_ (by k_asm) (by k_asm)
    refine ⟨_, _, _, _, _, _, _, rfl, ?_, ?_, ?_, hm, hm', rfl⟩
    · exact fmod_lo _ ht
    · exact fmod_hi _ ht
    · exact fdiv_nonneg' hb ht
  · refine hret _ _ _ _ ?_ (by k_asm) (by k_asm)
    refine ⟨_, _, _, _, _, _, _, rfl, ?_, ?_, hb, ?_, ?_, rfl⟩
    · exact fmod_lo _ ht
    · exact fmod_hi _ ht
    · exact fmod_lo _ (by decide)
    · exact fmod_hi _ (by decide)
end
section
open PySem PySem.W PySem.Calls PyProof.Rows
set_option maxRecDepth 100000
theorem news_sub {h₀ h : Heap} {L : Addr} {n1 n2 : List (Addr × Obj)} (N : News h₀ L h n1) (hs : ∀ p ∈ n2, p ∈ n1) : News h₀ L h n2 := fun p hp => N p (hs p hp)
theorem upd_front {d : Addr} {o : Obj} {news : List (Addr × Obj)} {g : Obj → List (Addr × Obj)} (U : UpdF d o news g) :
    ∃ rest, OwnOff rest [d] ∧ (∀ p ∈ (d, o) :: rest, p ∈ news) ∧ ∀ o', ∀ p ∈ g o', p ∈ (d, o') :: rest := by
  obtain ⟨pre, post, rfl, hg, a, b⟩ := U.split
  refine ⟨pre ++ post, ?_, ?_, ?_⟩
  · intro p hp c hc
    rw [List.mem_singleton.mp hc]
    exact (List.mem_append.mp hp).elim (a p) (b p)
  · intro p hp
    simp only [List.mem_append, List.mem_cons] at hp ⊢
    rcases hp with h | h | h
    · exact .inr (.inl h)
    · exact .inl h
    · exact .inr (.inr h)
  · intro o' p hp
    rw [hg o'] at hp
    simp only [List.mem_append, List.mem_cons] at hp ⊢
    rcases hp with h | h | h
    · exact .inr (.inl h)
    · exact .inl h
    · exact .inr (.inr h)

section
variable {w : World} {mean : ExcName → Option Value} {mg mb : Str → Option Value} {dp un : Nat} {gd : Option (List Code)} {cn : Str} {cs : Scope} {a : Addr} {ccd : Value} {cl : List (Str × Addr)} {outer : List Env} {A₀ : Around} {base h₀ : Heap} {L : Addr} {m₀ : Str → Option Value} {s : Shared} {Q E : Value → Shared → Prop}
  {news : List (Addr × Obj)} {g : Obj → List (Addr × Obj)}
theorem take_use {sa : Addr} {b m top : Int} {t1 t2 t3 : Tok} {n : Nat}
    (B : Below A₀ base outer h₀) (F : Fr h₀ L s.heap m₀) (X : (hd.heap_39 w.params).In h₀) (N : News h₀ L s.heap news) (T : Top hd.view_39 (looseW hd.view_39 [Str.ofString "SettingError"]) mean mg mb h₀) (hk : cs.kind = .function)
    (U : UpdF sa (listOf #[.int b t2, .int m t3] n) news g) (hb : 0 ≤ b) (hm : 0 ≤ m) (hm' : m < 2147483647) (ht : 0 < top) (ht' : top < 2 ^ 20) (hd : dp + 2 < recursionLimit) (hu : un + 16 < cLine)
    (ret : ∀ (b' m' d : Int) (t1' t2' t3' : Tok) (n' : Nat) h' tk', 0 ≤ d → d < top → 0 ≤ b' → 0 ≤ m' → m' < 2147483647 → Fr h₀ L h' m₀ → News h₀ L h' (g (listOf #[.int b' t2', .int m' t3'] n')) → Q (.int d t1') { s with heap := h', toks := tk' }) :
    wpAny (model PySem.Challenge.rw_pc0359_01.row.prog w) (ktrTop dp un gd cn cs L a ccd cl outer) (call (.ref 187) [.ref sa, .int top t1]) Q E s := by
  obtain ⟨rest, h1, h2, h3⟩ := upd_front U
  refine take_ok w sa b m top t1 t2 t3 n rest h1 hb hm hm' ht ht' _ _ _ _ _ _ _ _ _ _ _ _ _ _ _ _ _ _ _ _ B F X (news_sub N h2) T hk hd hu ?_
  rintro r news' h' tk' ⟨b', m', d, t1', t2', t3', n', rfl, k1, k2, k3, k4, k5, rfl⟩ F' N'
  exact ret b' m' d t1' t2' t3' n' h' tk' k1 k2 k3 k4 k5 F' (news_sub N' (h3 _))
end


noncomputable def oneRet (sa : Addr) (rest : List (Addr × Obj)) (ns : List Int) (r : Value) (news' : List (Addr × Obj)) : Prop :=
  ∃ (b m d : Int) (t1 t2 t3 : Tok) (n : Nat), r = .int (ns.getD d.toNat 0) t1 ∧ 0 ≤ d ∧ d < ns.length ∧ 0 ≤ b ∧ 0 ≤ m ∧ m < 2147483647 ∧ news' = (sa, listOf #[.int b t2, .int m t3] n) :: rest

set_option maxHeartbeats 8000000 in
theorem one_ok (w : World) (sa ta : Addr) (b m : Int) (t2 t3 : Tok) (n n2 : Nat) (vs : List Value) (ns : List Int) (rest : List (Addr × Obj)) (ho : OwnOff rest [sa, ta]) (hne : @Ne Nat sa ta)
    (hb : 0 ≤ b) (hm : 0 ≤ m) (hm' : m < 2147483647) (hi : IntsAre vs ns) (hl : 0 < ns.length) (hl' : ns.length < 1000) :
    Claim w 3 194 [.ref sa, .ref ta] ((sa, listOf #[.int b t2, .int m t3] n) :: (ta, listOf vs.toArray n2) :: rest) (oneRet sa ((ta, listOf vs.toArray n2) :: rest) ns) := by
  unfold Claim
  k_with_none
  w_top off
  k_with "om" => (first | k_extra "proj" | lia | omega (config := {}))
  k_with "pj" => (first | assumption | exact And.left (by assumption) | exact And.left (And.right (by assumption)) | exact And.left (And.right (And.right (by assumption))) | exact And.left (And.right (And.right (And.right (by assumption)))) | exact And.left (And.right (And.right (And.right (And.right (by assumption))))) | exact And.left (And.right (And.right (And.right (And.right (And.right (by assumption)))))) | exact And.left (And.right (And.right (And.right (And.right (And.right (And.right (by assumption))))))) | exact And.left (And.right (And.right (And.right (And.right (And.right (And.right (And.right (by assumption)))))))) | exact And.left (And.right (And.right (And.right (And.right (And.right (And.right (And.right (And.right (by assumption))))))))) | exact And.left (And.right (And.right (And.right (And.right (And.right (And.right (And.right (And.right (And.right (by assumption)))))))))) | exact And.left (And.right (And.right (And.right (And.right (And.right (And.right (And.right (And.right (And.right (And.right (by assumption))))))))))) | exact And.left (And.right (And.right (And.right (And.right (And.right (And.right (And.right (And.right (And.right (And.right (And.right (by assumption)))))))))))) | exact And.left (And.right (And.right (And.right (And.right (And.right (And.right (And.right (And.right (And.right (And.right (And.right (And.right (by assumption))))))))))))) | exact And.left (And.right (And.right (And.right (And.right (And.right (And.right (And.right (And.right (And.right (And.right (And.right (And.right (And.right (by assumption)))))))))))))) | exact And.right (by assumption) | exact And.right (And.right (by assumption)) | exact And.right (And.right (And.right (by assumption))) | exact And.right (And.right (And.right (And.right (by assumption)))) | exact And.right (And.right (And.right (And.right (And.right (by assumption))))) | exact And.right (And.right (And.right (And.right (And.right (And.right (by assumption)))))) | exact And.right (And.right (And.right (And.right (And.right (And.right (And.right (by assumption))))))) | exact And.right (And.right (And.right (And.right (And.right (And.right (And.right (And.right (by assumption)))))))) | exact And.right (And.right (And.right (And.right (And.right (And.right (And.right (And.right (And.right (by assumption))))))))) | exact And.right (And.right (And.right (And.right (And.right (And.right (And.right (And.right (And.right (And.right (by assumption)))))))))) | exact And.right (And.right (And.right (And.right (And.right (And.right (And.right (And.right (And.right (And.right (And.right (by assumption))))))))))) | exact And.right (And.right (And.right (And.right (And.right (And.right (And.right (And.right (And.right (And.right (And.right (And.right (by assumption)))))))))))) | exact And.right (And.right (And.right (And.right (And.right (And.right (And.right (And.right (And.right (And.right (And.right (And.right (And.right (by assumption))))))))))))))
  k_with "proj" => (first
    | (with_reducible assumption)
    | ((with_reducible show @Ne Nat _ _); (with_reducible first
      | (refine Nat.ne_of_gt ?_; k_extra "pj")
      | (refine Nat.ne_of_lt ?_; k_extra "pj")
      | (refine Nat.ne_of_gt (Nat.lt_trans ?_ (by assumption)); k_extra "pj")
      | (refine Nat.ne_of_lt (Nat.lt_trans ?_ (by assumption)); k_extra "pj")
      | k_extra "pj"
      | (refine Ne.symm ?_; k_extra "pj")
      | (first | exact And.left (And.left (by assumption)) | exact And.left (And.right (And.left (by assumption))) | exact And.right (And.right (And.left (by assumption))) | exact And.left (And.left (And.right (by assumption))) | exact And.left (And.right (And.left (And.right (by assumption)))) | exact And.right (And.right (And.left (And.right (by assumption)))) | exact And.left (And.left (And.right (And.right (by assumption)))) | exact And.left (And.right (And.left (And.right (And.right (by assumption))))) | exact And.right (And.right (And.left (And.right (And.right (by assumption))))) | exact And.left (And.left (And.right (And.right (And.right (by assumption))))) | exact And.left (And.right (And.left (And.right (And.right (And.right (by assumption)))))) | exact And.right (And.right (And.left (And.right (And.right (And.right (by assumption)))))) | exact And.left (And.left (And.right (And.right (And.right (And.right (by assumption)))))) | exact And.left (And.right (And.left (And.right (And.right (And.right (And.right (by assumption))))))) | exact And.right (And.right (And.left (And.right (And.right (And.right (And.right (by assumption))))))) | exact And.left (And.left (And.right (And.right (And.right (And.right (And.right (by assumption))))))) | exact And.left (And.right (And.left (And.right (And.right (And.right (And.right (And.right (by assumption)))))))) | exact And.right (And.right (And.left (And.right (And.right (And.right (And.right (And.right (by assumption)))))))))
      | (refine Ne.symm ?_; (first | exact And.left (And.left (by assumption)) | exact And.left (And.right (And.left (by assumption))) | exact And.right (And.right (And.left (by assumption))) | exact And.left (And.left (And.right (by assumption))) | exact And.left (And.right (And.left (And.right (by assumption)))) | exact And.right (And.right (And.left (And.right (by assumption)))) | exact And.left (And.left (And.right (And.right (by assumption)))) | exact And.left (And.right (And.left (And.right (And.right (by assumption))))) | exact And.right (And.right (And.left (And.right (And.right (by assumption))))) | exact And.left (And.left (And.right (And.right (And.right (by assumption))))) | exact And.left (And.right (And.left (And.right (And.right (And.right (by assumption)))))) | exact And.right (And.right (And.left (And.right (And.right (And.right (by assumption)))))) | exact And.left (And.left (And.right (And.right (And.right (And.right (by assumption)))))) | exact And.left (And.right (And.left (And.right (And.right (And.right (And.right (by assumption))))))) | exact And.right (And.right (And.left (And.right (And.right (And.right (And.right (by assumption))))))) | exact And.left (And.left (And.right (And.right (And.right (And.right (And.right (by assumption))))))) | exact And.left (And.right (And.left (And.right (And.right (And.right (And.right (And.right (by assumption)))))))) | exact And.right (And.right (And.left (And.right (And.right (And.right (And.right (And.right (by assumption))))))))))))
    | ((with_reducible show @LT.lt Nat _ _ _); (with_reducible k_extra "pj"))
    | ((with_reducible show @LE.le Nat _ _ _); (with_reducible first | exact Nat.le_refl _ | (refine Nat.le_of_lt ?_; k_extra "pj")))
    | ((with_reducible refine And.intro ?_ ?_) <;> omega)
    | (with_reducible (first | assumption | exact And.left (by assumption) | exact And.left (And.right (by assumption)) | exact And.left (And.right (And.right (by assumption))) | exact And.right (by assumption) | exact And.right (And.right (by assumption)))))
  k_with "updF" => k_dflt (rename Ap _ _ => hAp9; first | exact upd0 hAp9 | exact upd1 hAp9 | exact upd2 hAp9 | exact upd3 hAp9 | exact upd4 hAp9 | exact upd5 hAp9 | exact upd6 hAp9 | exact upd7 hAp9 | exact upd8 hAp9 | exact upd9 hAp9 | exact upd10 hAp9 | exact upd11 hAp9 | exact upd12 hAp9 | exact upd13 hAp9 | exact upd14 hAp9 | exact upd15 hAp9)
  k_with "upd" => k_dflt (rename Ap _ _ => hAp9; first | exact upe0 hAp9 | exact upe1 hAp9 | exact upe2 hAp9 | exact upe3 hAp9 | exact upe4 hAp9 | exact upe5 hAp9 | exact upe6 hAp9 | exact upe7 hAp9 | exact upe8 hAp9 | exact upe9 hAp9 | exact upe10 hAp9 | exact upe11 hAp9 | exact upe12 hAp9 | exact upe13 hAp9 | exact upe14 hAp9 | exact upe15 hAp9)
  k_with "lt" => ((rename (∀ p ∈ _, _ < _) => hL9); (try (rename Ap _ _ => hAp9; have hRaw := hL9; have hAp := Ap.push hAp9 hL9 rfl)); replace hL9 := allLt_of hL9; dsimp only [AllLt] at hL9)
  k_with "lt2" => ((with_reducible rename @LT.lt Nat _ _ _ => hL8); replace hL8 := ltN hL8; (try (rename Ap _ _ => hAp9; rename (∀ p ∈ _, _ < _) => hRaw9; have hAp := Ap.push2 hAp9 hRaw9 rfl hL8)))
  k_with "all" => (first | exact allLt_ne (by assumption) (by omega) | exact lt_neG (by assumption) (by omega))
  k_with "allmem" => (first | (with_reducible exact List.forall_mem_nil _) | ((with_reducible refine List.forall_mem_cons.mpr (And.intro ?_ ?_)); (focus k_mem); walk_at "allmem") | (intro p hp; (repeat (first | exact hp | apply List.mem_cons_of_mem)); done))
  k_with "storeName int" => k_dflt (refine' store_int ?gqF ?gqN ?_ ?gqa ?gqb; (case gqF => k_asm); (case gqN => k_asm); (case gqa => rfl); (case gqb => rfl); k_whole; intro t' h' tk' F' N'; (try k_sweep))
  k_with "storeName" => k_dflt (refine' store_any ?gqF ?gqN ?_ ?gqa ?gqb; (case gqF => k_asm); (case gqN => k_asm); (case gqa => rfl); (case gqb => rfl); k_whole; intro h' tk' F' N'; (try k_sweep))
  k_with "newTuple" => (k_dflt (first
    | (refine' tup_2 ?gqF ?gqN ?_; (case gqF => k_asm); (case gqN => k_asm); k_whole; intro t1' t2' D' h' tk' F' N' l1)
    | (refine' tup_3 ?gqF ?gqN ?_; (case gqF => k_asm); (case gqN => k_asm); k_whole; intro t1' t2' t3' D' h' tk' F' N' l1)
    | (refine' tup_any ?gqF ?gqN ?_ ?gqz; (case gqF => k_asm); (case gqN => k_asm); (case gqz => exact Nat.le_of_ble_eq_true rfl); k_whole; intro D' h' tk' F' N' l1)); (try k_lt l1); (try k_sweep))
  k_with "newList" => (k_dflt (first
    | (refine' list_4 ?gqF ?gqN ?_; (case gqF => k_asm); (case gqN => k_asm); k_whole; intro t1' t2' t3' t4' D' h' tk' F' N' l1)
    | (refine' list_1 ?gqF ?gqN ?_; (case gqF => k_asm); (case gqN => k_asm); k_whole; intro t1' D' h' tk' F' N' l1)
    | (refine' list_any ?gqF ?gqN ?_ ?gqz; (case gqF => k_asm); (case gqN => k_asm); (case gqz => exact Nat.le_of_ble_eq_true rfl); k_whole; intro D' h' tk' F' N' l1)); (try k_lt l1); (try k_sweep))
  k_with "exec Assign cons Call" => k_fold
  k_with "exec Assign cons Tuple" => k_fold
  k_with "exec If BoolOp cons nil" => k_fold
  k_with "exec If UnaryOp cons nil" => k_fold
  k_with "exec If Compare cons nil" => k_fold
  k_with "exec Assign cons BinOp" => k_fold
  k_with "exec Expr Call" => k_fold
  k_with "exec Assign cons Compare" => k_fold
  k_with "exec Assign cons Subscript" => k_fold
  k_with "exec If Name cons nil" => k_fold
  k_with "gx" => k_dflt (first
    | exact gv_int
    | (refine' gv_name ?gqF ?gqv ?gqa ?gqb ?gqc; (case gqF => k_asm); (case gqa => rfl); (case gqb => rfl); (case gqv => exact @rfl _ (some _)); (case gqc => decide))
    | (refine' gv_cell ?gqN ?gqc ?gqm ?gqd ?gqa ?gqb ?gqe; (case gqa => rfl); (case gqb => rfl); (case gqN => k_asm); (case gqc => rfl); (case gqm => k_mem); (case gqd => k_asm); (case gqe => decide))
    | (refine' gv_glob ?gqF ?gqX ?gqT ?gqe ?gqa ?gqb ?gqc; (case gqF => k_asm); (case gqX => k_asm); (case gqT => k_asm); (case gqa => rfl); (case gqb => rfl); (case gqe => k_is); (case gqc => decide))
    | (refine' gv_add ?gqg ?gqh; (case gqg => k_extra "gx"); (case gqh => k_extra "gx"))
    | (refine' gv_sub ?gqg ?gqh; (case gqg => k_extra "gx"); (case gqh => k_extra "gx"))
    | (refine' gv_attr ?gqg ?gqk1 ?gqk2 ?gqk3 ?gqk4 ?gqk5 ?gqk6 ?gqk7 ?gqk8 ?gqk9 ?gqe; (case gqg => k_extra "gx"); (case gqk1 => k_asm); (case gqk2 => k_asm); (case gqk3 => k_inst); (case gqk4 => k_is); (case gqk5 => k_is); (case gqk6 => k_is); (case gqk7 => k_is); (case gqk8 => k_get); (case gqk9 => k_handed); (case gqe => with_unfolding_all rfl)))
  k_with "gl" => k_dflt (first
    | exact gl_nil
    | (refine' gl_cons ?gqg ?gqh ?gqe; (case gqe => rfl); (case gqg => k_extra "gx"); (case gqh => k_extra "gl")))
  k_with "callWith ref" => (k_dflt (refine' callWith_gv ?gqX ?gqF ?gqk ?gqg ?_ ?gqe ?gqp; (case gqX => k_asm); (case gqF => k_asm); (case gqk => k_is); (case gqe => rfl); (case gqp => rfl); (case gqg => k_extra "gl"); k_whole); (try dsimp only [List.nil_append, List.cons_append]))
  k_with "eval Call Name cons nil" => k_dflt (refine' call_gv ?gqX ?gqF ?gqf ?gqk ?gqg ?_ ?gqc ?gqe ?gqp; (case gqX => k_asm); (case gqF => k_asm); (case gqc => rfl); (case gqe => rfl); (case gqp => rfl); (case gqf => k_extra "gx"); (case gqk => k_is); (case gqg => k_extra "gl"); k_whole)
  k_with "eval Name" => k_dflt (refine' nameX_L ?gqF ?gqv ?_ ?gqa ?gqb ?gqc; (case gqF => k_asm); (case gqa => rfl); (case gqb => rfl); (case gqv => exact @rfl _ (some _)); (case gqc => decide); k_whole)
  k_with "spliced" => (k_dflt (refine' spliced_gv ?gqg ?_; (case gqg => k_extra "gl"); k_whole); (try dsimp only [List.nil_append, List.cons_append]))
  k_with "eval BinOp" => k_dflt (refine' eval_gv ?gqg ?_; (case gqg => k_extra "gx"); k_whole)
  k_with "eval Attribute Name" => k_dflt (refine' eval_gv ?gqg ?_; (case gqg => k_extra "gx"); k_whole)
  k_with "cmp" => k_dflt (first
    | ((with_reducible show wpAny _ _ (isTrue (Expr.Compare _ [CmpOp.Lt] [_] _) _ _) _ _ _); refine' ts_lt ?gqg ?gqh ?_ ?gqm; (case gqm => with_unfolding_all rfl); (case gqg => k_extra "gx"); (case gqh => k_extra "gx"); k_whole)
    | ((with_reducible show wpAny _ _ (isTrue (Expr.Compare _ [CmpOp.LtE] [_] _) _ _) _ _ _); refine' ts_le ?gqg ?gqh ?_ ?gqm; (case gqm => with_unfolding_all rfl); (case gqg => k_extra "gx"); (case gqh => k_extra "gx"); k_whole)
    | ((with_reducible show wpAny _ _ (isTrue (Expr.Compare _ [CmpOp.Gt] [_] _) _ _) _ _ _); refine' ts_gt ?gqg ?gqh ?_ ?gqm; (case gqm => with_unfolding_all rfl); (case gqg => k_extra "gx"); (case gqh => k_extra "gx"); k_whole)
    | ((with_reducible show wpAny _ _ (isTrue (Expr.Compare _ [CmpOp.GtE] [_] _) _ _) _ _ _); refine' ts_ge ?gqg ?gqh ?_ ?gqm; (case gqm => with_unfolding_all rfl); (case gqg => k_extra "gx"); (case gqh => k_extra "gx"); k_whole)
    | ((with_reducible show wpAny _ _ (isTrue (Expr.Compare _ [CmpOp.Eq] [_] _) _ _) _ _ _); refine' ts_eq ?gqg ?gqh ?_ ?gqm; (case gqm => with_unfolding_all rfl); (case gqg => k_extra "gx"); (case gqh => k_extra "gx"); k_whole)
    | ((with_reducible show wpAny _ _ (isTrue (Expr.Compare _ [CmpOp.NotEq] [_] _) _ _) _ _ _); refine' ts_ne ?gqg ?gqh ?_ ?gqm; (case gqm => with_unfolding_all rfl); (case gqg => k_extra "gx"); (case gqh => k_extra "gx"); k_whole))
  k_with "isTrue Compare Name" => k_extra "cmp"
  k_with "isTrue Compare Constant" => k_extra "cmp"
  k_with "isTrue Compare BinOp" => k_extra "cmp"
  k_with "isTrue Compare Attribute" => k_extra "cmp"
  k_with "enter" => (refine' code_any ?k1 ?k2 ?k3 ?k4 ?k5 ?kA ?kF ?kK ?k6 ?k7 ?k8 ?k9 ?kB ?_ ?c2 ?c3 ?c4 ?c5; (case kA => exact rfl); (case kF => exact rfl); (case kK => first | exact rfl | assumption); (case k1 => k_asm); (case k2 => k_asm); (case k3 => k_asm); (case k4 => k_asm); (case k5 => k_asm); (case k6 => k_is); (case k7 => k_is); (case k8 => k_room); (case k9 => first | exact BindsTo.of_eq rfl | exact binds_K (by k_in) rfl (by k_is) rfl rfl rfl); (case c5 => decide); (case kB => exact locs rfl); (case c2 => exact rfl); (case c3 => exact rfl); (case c4 => exact rfl); k_whole; intro g' L' h' tk' FG' F' N' B' X' T'; (try dsimp only); (try k_lift B'); (try k_fold))
  k_with "clsnew" => k_dflt (refine' call_cls ?k1 ?k2 ?k3 ?k4 ?k5 ?k6 ?_; (case k1 => k_asm); (case k2 => k_asm); (case k3 => k_asm); (case k4 => k_is); (case k5 => k_is); (case k6 => k_is); k_whole; intro x' d' h' F' N' l1 l2; (try k_lt l1); (try k_lt2 l2); (try k_sweep); k_extra "enter")
  k_with "call ref" => k_dflt (
    (with_reducible show wpAny _ _ (call (Value.ref 187) _) _ _ _)
    refine' take_use ?k1 ?k2 ?k3 ?k4 ?k5 ?kK ?kU ?hb ?hm ?hm' ?ht ?ht' ?kd ?ku ?_
    (case k1 => k_asm)
    (case k2 => k_asm)
    (case k3 => k_asm)
    (case k5 => k_asm)
    (case k4 => k_asm)
    (case kU => k_updF)
    (case hb => assumption)
    (case hm => assumption)
    (case hm' => assumption)
    (case ht => first | decide | omega)
    (case ht' => first | decide | omega)
    (case kK => first | exact rfl | assumption)
    (case kd => first | exact room1 (by assumption) (by decide) | exact room2 (by assumption) (by decide) | ktr_room)
    (case ku => first | exact room1 (by assumption) (by decide) | exact room2 (by assumption) (by decide) | ktr_units)
    intro b9 m9 d9 t91 t92 t93 n9 h9 tk9 hd91 hd92 hb9 hm91 hm92 F9 N9
    (try dsimp only at N9)
    (try dsimp only)
    (try k_fold)
    skip)
  k_fill
  intro mean mg mb dp un gd cn cs a ccd cl outer A₀ base h₀ L m s Q E B F X N T hk hd hu hret
  refine wpAny_call ?_
  k_dflt (k_extra "enter")
  k_steps
  refine hret _ _ _ _ ?_ (by k_asm) (by k_asm)
  refine ⟨_, _, _, _, _, _, _, rfl, ?_, ?_, ?_, ?_, ?_, rfl⟩ <;> assumption
end
section
open PySem PySem.W PySem.Calls PyProof.Rows
set_option maxRecDepth 100000
theorem allLt_ne {d c : Addr} : ∀ {l : List (Addr × Obj)}, AllLt d l → @LE.le Nat _ d c → ∀ p ∈ l, p.1 ≠ c
  | [], _, _ => fun _ h => nomatch h
  | _ :: _, h, k => fun q hq => by
    rcases List.mem_cons.mp hq with rfl | hq
    · exact Nat.ne_of_lt (Nat.lt_of_lt_of_le h.1 k)
    · exact allLt_ne h.2 k q hq


set_option maxHeartbeats 8000000 in
theorem lshare_ok (w : World) (low high most level : Int) (t1 t2 t3 t4 : Tok) (news : List (Addr × Obj))
    (h0 : 0 ≤ low) (h1 : low < high) (h2 : high < 1000) (h3 : 0 ≤ most) (h4 : most < 1000) (h5 : 0 ≤ level) (h6 : level < 100000) :
    Claim w 2 199 [.int low t1, .int high t2, .int most t3, .int level t4] news (fun r news' => ∃ t, r = .int (shareF low high most level) t ∧ news' = news) := by
  unfold Claim
  k_with_none
  w_top off
  k_with "om" => (first | k_extra "proj" | lia | omega (config := {}))
  k_with "pj" => (first | assumption | exact And.left (by assumption) | exact And.left (And.right (by assumption)) | exact And.left (And.right (And.right (by assumption))) | exact And.left (And.right (And.right (And.right (by assumption)))) | exact And.left (And.right (And.right (And.right (And.right (by assumption))))) | exact And.left (And.right (And.right (And.right (And.right (And.right (by assumption)))))) | exact And.left (And.right (And.right (And.right (And.right (And.right (And.right (by assumption))))))) | exact And.left (And.right (And.right (And.right (And.right (And.right (And.right (And.right (by assumption)))))))) | exact And.left (And.right (And.right (And.right (And.right (And.right (And.right (And.right (And.right (by assumption))))))))) | exact And.left (And.right (And.right (And.right (And.right (And.right (And.right (And.right (And.right (And.right (by assumption)))))))))) | exact And.left (And.right (And.right (And.right (And.right (And.right (And.right (And.right (And.right (And.right (And.right (by assumption))))))))))) | exact And.left (And.right (And.right (And.right (And.right (And.right (And.right (And.right (And.right (And.right (And.right (And.right (by assumption)))))))))))) | exact And.left (And.right (And.right (And.right (And.right (And.right (And.right (And.right (And.right (And.right (And.right (And.right (And.right (by assumption))))))))))))) | exact And.left (And.right (And.right (And.right (And.right (And.right (And.right (And.right (And.right (And.right (And.right (And.right (And.right (And.right (by assumption)))))))))))))) | exact And.right (by assumption) | exact And.right (And.right (by assumption)) | exact And.right (And.right (And.right (by assumption))) | exact And.right (And.right (And.right (And.right (by assumption)))) | exact And.right (And.right (And.right (And.right (And.right (by assumption))))) | exact And.right (And.right (And.right (And.right (And.right (And.right (by assumption)))))) | exact And.right (And.right (And.right (And.right (And.right (And.right (And.right (by assumption))))))) | exact And.right (And.right (And.right (And.right (And.right (And.right (And.right (And.right (by assumption)))))))) | exact And.right (And.right (And.right (And.right (And.right (And.right (And.right (And.right (And.right (by assumption))))))))) | exact And.right (And.right (And.right (And.right (And.right (And.right (And.right (And.right (And.right (And.right (by assumption)))))))))) | exact And.right (And.right (And.right (And.right (And.right (And.right (And.right (And.right (And.right (And.right (And.right (by assumption))))))))))) | exact And.right (And.right (And.right (And.right (And.right (And.right (And.right (And.right (And.right (And.right (And.right (And.right (by assumption)))))))))))) | exact And.right (And.right (And.right (And.right (And.right (And.right (And.right (And.right (And.right (And.right (And.right (And.right (And.right (by assumption))))))))))))))
  k_with "proj" => (first
    | (with_reducible assumption)
    | ((with_reducible show @Ne Nat _ _); (with_reducible first
      | (refine Nat.ne_of_gt ?_; k_extra "pj")
      | (refine Nat.ne_of_lt ?_; k_extra "pj")
      | (refine Nat.ne_of_gt (Nat.lt_trans ?_ (by assumption)); k_extra "pj")
      | (refine Nat.ne_of_lt (Nat.lt_trans ?_ (by assumption)); k_extra "pj")
      | k_extra "pj"
      | (refine Ne.symm ?_; k_extra "pj")
      | (first | exact And.left (And.left (by assumption)) | exact And.left (And.right (And.left (by assumption))) | exact And.right (And.right (And.left (by assumption))) | exact And.left (And.left (And.right (by assumption))) | exact And.left (And.right (And.left (And.right (by assumption)))) | exact And.right (And.right (And.left (And.right (by assumption)))) | exact And.left (And.left (And.right (And.right (by assumption)))) | exact And.left (And.right (And.left (And.right (And.right (by assumption))))) | exact And.right (And.right (And.left (And.right (And.right (by assumption))))) | exact And.left (And.left (And.right (And.right (And.right (by assumption))))) | exact And.left (And.right (And.left (And.right (And.right (And.right (by assumption)))))) | exact And.right (And.right (And.left (And.right (And.right (And.right (by assumption)))))) | exact And.left (And.left (And.right (And.right (And.right (And.right (by assumption)))))) | exact And.left (And.right (And.left (And.right (And.right (And.right (And.right (by assumption))))))) | exact And.right (And.right (And.left (And.right (And.right (And.right (And.right (by assumption))))))) | exact And.left (And.left (And.right (And.right (And.right (And.right (And.right (by assumption))))))) | exact And.left (And.right (And.left (And.right (And.right (And.right (And.right (And.right (by assumption)))))))) | exact And.right (And.right (And.left (And.right (And.right (And.right (And.right (And.right (by assumption)))))))))
      | (refine Ne.symm ?_; (first | exact And.left (And.left (by assumption)) | exact And.left (And.right (And.left (by assumption))) | exact And.right (And.right (And.left (by assumption))) | exact And.left (And.left (And.right (by assumption))) | exact And.left (And.right (And.left (And.right (by assumption)))) | exact And.right (And.right (And.left (And.right (by assumption)))) | exact And.left (And.left (And.right (And.right (by assumption)))) | exact And.left (And.right (And.left (And.right (And.right (by assumption))))) | exact And.right (And.right (And.left (And.right (And.right (by assumption))))) | exact And.left (And.left (And.right (And.right (And.right (by assumption))))) | exact And.left (And.right (And.left (And.right (And.right (And.right (by assumption)))))) | exact And.right (And.right (And.left (And.right (And.right (And.right (by assumption)))))) | exact And.left (And.left (And.right (And.right (And.right (And.right (by assumption)))))) | exact And.left (And.right (And.left (And.right (And.right (And.right (And.right (by assumption))))))) | exact And.right (And.right (And.left (And.right (And.right (And.right (And.right (by assumption))))))) | exact And.left (And.left (And.right (And.right (And.right (And.right (And.right (by assumption))))))) | exact And.left (And.right (And.left (And.right (And.right (And.right (And.right (And.right (by assumption)))))))) | exact And.right (And.right (And.left (And.right (And.right (And.right (And.right (And.right (by assumption))))))))))))
    | ((with_reducible show @LT.lt Nat _ _ _); (with_reducible k_extra "pj"))
    | ((with_reducible show @LE.le Nat _ _ _); (with_reducible first | exact Nat.le_refl _ | (refine Nat.le_of_lt ?_; k_extra "pj")))
    | ((with_reducible refine And.intro ?_ ?_) <;> omega)
    | (with_reducible (first | assumption | exact And.left (by assumption) | exact And.left (And.right (by assumption)) | exact And.left (And.right (And.right (by assumption))) | exact And.right (by assumption) | exact And.right (And.right (by assumption)))))
  k_with "updF" => k_dflt (rename Ap _ _ => hAp9; first | exact upd0 hAp9 | exact upd1 hAp9 | exact upd2 hAp9 | exact upd3 hAp9 | exact upd4 hAp9 | exact upd5 hAp9 | exact upd6 hAp9 | exact upd7 hAp9 | exact upd8 hAp9 | exact upd9 hAp9 | exact upd10 hAp9 | exact upd11 hAp9 | exact upd12 hAp9 | exact upd13 hAp9 | exact upd14 hAp9 | exact upd15 hAp9)
  k_with "upd" => k_dflt (rename Ap _ _ => hAp9; first | exact upe0 hAp9 | exact upe1 hAp9 | exact upe2 hAp9 | exact upe3 hAp9 | exact upe4 hAp9 | exact upe5 hAp9 | exact upe6 hAp9 | exact upe7 hAp9 | exact upe8 hAp9 | exact upe9 hAp9 | exact upe10 hAp9 | exact upe11 hAp9 | exact upe12 hAp9 | exact upe13 hAp9 | exact upe14 hAp9 | exact upe15 hAp9)
  k_with "lt" => ((rename (∀ p ∈ _, _ < _) => hL9); (try (rename Ap _ _ => hAp9; have hRaw := hL9; have hAp := Ap.push hAp9 hL9 rfl)); replace hL9 := allLt_of hL9; dsimp only [AllLt] at hL9)
  k_with "lt2" => ((with_reducible rename @LT.lt Nat _ _ _ => hL8); replace hL8 := ltN hL8; (try (rename Ap _ _ => hAp9; rename (∀ p ∈ _, _ < _) => hRaw9; have hAp := Ap.push2 hAp9 hRaw9 rfl hL8)))
  k_with "all" => (first | exact allLt_ne (by assumption) (by omega) | exact lt_neG (by assumption) (by omega))
  k_with "allmem" => (first | (with_reducible exact List.forall_mem_nil _) | ((with_reducible refine List.forall_mem_cons.mpr (And.intro ?_ ?_)); (focus k_mem); walk_at "allmem") | (intro p hp; (repeat (first | exact hp | apply List.mem_cons_of_mem)); done))
  k_with "storeName int" => k_dflt (refine' store_int ?gqF ?gqN ?_ ?gqa ?gqb; (case gqF => k_asm); (case gqN => k_asm); (case gqa => rfl); (case gqb => rfl); k_whole; intro t' h' tk' F' N'; (try k_sweep))
  k_with "storeName" => k_dflt (refine' store_any ?gqF ?gqN ?_ ?gqa ?gqb; (case gqF => k_asm); (case gqN => k_asm); (case gqa => rfl); (case gqb => rfl); k_whole; intro h' tk' F' N'; (try k_sweep))
  k_with "newTuple" => (k_dflt (first
    | (refine' tup_2 ?gqF ?gqN ?_; (case gqF => k_asm); (case gqN => k_asm); k_whole; intro t1' t2' D' h' tk' F' N' l1)
    | (refine' tup_3 ?gqF ?gqN ?_; (case gqF => k_asm); (case gqN => k_asm); k_whole; intro t1' t2' t3' D' h' tk' F' N' l1)
    | (refine' tup_any ?gqF ?gqN ?_ ?gqz; (case gqF => k_asm); (case gqN => k_asm); (case gqz => exact Nat.le_of_ble_eq_true rfl); k_whole; intro D' h' tk' F' N' l1)); (try k_lt l1); (try k_sweep))
  k_with "newList" => (k_dflt (first
    | (refine' list_4 ?gqF ?gqN ?_; (case gqF => k_asm); (case gqN => k_asm); k_whole; intro t1' t2' t3' t4' D' h' tk' F' N' l1)
    | (refine' list_1 ?gqF ?gqN ?_; (case gqF => k_asm); (case gqN => k_asm); k_whole; intro t1' D' h' tk' F' N' l1)
    | (refine' list_any ?gqF ?gqN ?_ ?gqz; (case gqF => k_asm); (case gqN => k_asm); (case gqz => exact Nat.le_of_ble_eq_true rfl); k_whole; intro D' h' tk' F' N' l1)); (try k_lt l1); (try k_sweep))
  k_with "exec Assign cons Call" => k_fold
  k_with "exec Assign cons Tuple" => k_fold
  k_with "exec If BoolOp cons nil" => k_fold
  k_with "exec If UnaryOp cons nil" => k_fold
  k_with "exec If Compare cons nil" => k_fold
  k_with "exec Assign cons BinOp" => k_fold
  k_with "exec Expr Call" => k_fold
  k_with "exec Assign cons Compare" => k_fold
  k_with "exec Assign cons Subscript" => k_fold
  k_with "exec If Name cons nil" => k_fold
  k_with "gx" => k_dflt (first
    | exact gv_int
    | (refine' gv_name ?gqF ?gqv ?gqa ?gqb ?gqc; (case gqF => k_asm); (case gqa => rfl); (case gqb => rfl); (case gqv => exact @rfl _ (some _)); (case gqc => decide))
    | (refine' gv_cell ?gqN ?gqc ?gqm ?gqd ?gqa ?gqb ?gqe; (case gqa => rfl); (case gqb => rfl); (case gqN => k_asm); (case gqc => rfl); (case gqm => k_mem); (case gqd => k_asm); (case gqe => decide))
    | (refine' gv_glob ?gqF ?gqX ?gqT ?gqe ?gqa ?gqb ?gqc; (case gqF => k_asm); (case gqX => k_asm); (case gqT => k_asm); (case gqa => rfl); (case gqb => rfl); (case gqe => k_is); (case gqc => decide))
    | (refine' gv_add ?gqg ?gqh; (case gqg => k_extra "gx"); (case gqh => k_extra "gx"))
    | (refine' gv_sub ?gqg ?gqh; (case gqg => k_extra "gx"); (case gqh => k_extra "gx"))
    | (refine' gv_attr ?gqg ?gqk1 ?gqk2 ?gqk3 ?gqk4 ?gqk5 ?gqk6 ?gqk7 ?gqk8 ?gqk9 ?gqe; (case gqg => k_extra "gx"); (case gqk1 => k_asm); (case gqk2 => k_asm); (case gqk3 => k_inst); (case gqk4 => k_is); (case gqk5 => k_is); (case gqk6 => k_is); (case gqk7 => k_is); (case gqk8 => k_get); (case gqk9 => k_handed); (case gqe => with_unfolding_all rfl)))
  k_with "gl" => k_dflt (first
    | exact gl_nil
    | (refine' gl_cons ?gqg ?gqh ?gqe; (case gqe => rfl); (case gqg => k_extra "gx"); (case gqh => k_extra "gl")))
  k_with "callWith ref" => (k_dflt (refine' callWith_gv ?gqX ?gqF ?gqk ?gqg ?_ ?gqe ?gqp; (case gqX => k_asm); (case gqF => k_asm); (case gqk => k_is); (case gqe => rfl); (case gqp => rfl); (case gqg => k_extra "gl"); k_whole); (try dsimp only [List.nil_append, List.cons_append]))
  k_with "eval Call Name cons nil" => k_dflt (refine' call_gv ?gqX ?gqF ?gqf ?gqk ?gqg ?_ ?gqc ?gqe ?gqp; (case gqX => k_asm); (case gqF => k_asm); (case gqc => rfl); (case gqe => rfl); (case gqp => rfl); (case gqf => k_extra "gx"); (case gqk => k_is); (case gqg => k_extra "gl"); k_whole)
  k_with "eval Name" => k_dflt (refine' nameX_L ?gqF ?gqv ?_ ?gqa ?gqb ?gqc; (case gqF => k_asm); (case gqa => rfl); (case gqb => rfl); (case gqv => exact @rfl _ (some _)); (case gqc => decide); k_whole)
  k_with "spliced" => (k_dflt (refine' spliced_gv ?gqg ?_; (case gqg => k_extra "gl"); k_whole); (try dsimp only [List.nil_append, List.cons_append]))
  k_with "eval BinOp" => k_dflt (refine' eval_gv ?gqg ?_; (case gqg => k_extra "gx"); k_whole)
  k_with "eval Attribute Name" => k_dflt (refine' eval_gv ?gqg ?_; (case gqg => k_extra "gx"); k_whole)
  k_with "cmp" => k_dflt (first
    | ((with_reducible show wpAny _ _ (isTrue (Expr.Compare _ [CmpOp.Lt] [_] _) _ _) _ _ _); refine' ts_lt ?gqg ?gqh ?_ ?gqm; (case gqm => with_unfolding_all rfl); (case gqg => k_extra "gx"); (case gqh => k_extra "gx"); k_whole)
    | ((with_reducible show wpAny _ _ (isTrue (Expr.Compare _ [CmpOp.LtE] [_] _) _ _) _ _ _); refine' ts_le ?gqg ?gqh ?_ ?gqm; (case gqm => with_unfolding_all rfl); (case gqg => k_extra "gx"); (case gqh => k_extra "gx"); k_whole)
    | ((with_reducible show wpAny _ _ (isTrue (Expr.Compare _ [CmpOp.Gt] [_] _) _ _) _ _ _); refine' ts_gt ?gqg ?gqh ?_ ?gqm; (case gqm => with_unfolding_all rfl); (case gqg => k_extra "gx"); (case gqh => k_extra "gx"); k_whole)
    | ((with_reducible show wpAny _ _ (isTrue (Expr.Compare _ [CmpOp.GtE] [_] _) _ _) _ _ _); refine' ts_ge ?gqg ?gqh ?_ ?gqm; (case gqm => with_unfolding_all rfl); (case gqg => k_extra "gx"); (case gqh => k_extra "gx"); k_whole)
    | ((with_reducible show wpAny _ _ (isTrue (Expr.Compare _ [CmpOp.Eq] [_] _) _ _) _ _ _); refine' ts_eq ?gqg ?gqh ?_ ?gqm; (case gqm => with_unfolding_all rfl); (case gqg => k_extra "gx"); (case gqh => k_extra "gx"); k_whole)
    | ((with_reducible show wpAny _ _ (isTrue (Expr.Compare _ [CmpOp.NotEq] [_] _) _ _) _ _ _); refine' ts_ne ?gqg ?gqh ?_ ?gqm; (case gqm => with_unfolding_all rfl); (case gqg => k_extra "gx"); (case gqh => k_extra "gx"); k_whole))
  k_with "isTrue Compare Name" => k_extra "cmp"
  k_with "isTrue Compare Constant" => k_extra "cmp"
  k_with "isTrue Compare BinOp" => k_extra "cmp"
  k_with "isTrue Compare Attribute" => k_extra "cmp"
  k_with "enter" => (refine' code_any ?k1 ?k2 ?k3 ?k4 ?k5 ?kA ?kF ?kK ?k6 ?k7 ?k8 ?k9 ?kB ?_ ?c2 ?c3 ?c4 ?c5; (case kA => exact rfl); (case kF => exact rfl); (case kK => first | exact rfl | assumption); (case k1 => k_asm); (case k2 => k_asm); (case k3 => k_asm); (case k4 => k_asm); (case k5 => k_asm); (case k6 => k_is); (case k7 => k_is); (case k8 => k_room); (case k9 => first | exact BindsTo.of_eq rfl | exact binds_K (by k_in) rfl (by k_is) rfl rfl rfl); (case c5 => decide); (case kB => exact locs rfl); (case c2 => exact rfl); (case c3 => exact rfl); (case c4 => exact rfl); k_whole; intro g' L' h' tk' FG' F' N' B' X' T'; (try dsimp only); (try k_lift B'); (try k_fold))
  k_with "clsnew" => k_dflt (refine' call_cls ?k1 ?k2 ?k3 ?k4 ?k5 ?k6 ?_; (case k1 => k_asm); (case k2 => k_asm); (case k3 => k_asm); (case k4 => k_is); (case k5 => k_is); (case k6 => k_is); k_whole; intro x' d' h' F' N' l1 l2; (try k_lt l1); (try k_lt2 l2); (try k_sweep); k_extra "enter")
  k_with "CompEnd" => (refine LCg.CompEnd.intro (by k_asm) (by k_asm) _ (fun p hp => hp) (by assumption) True.intro ?_)
  k_fill
  intro mean mg mb dp un gd cn cs a ccd cl outer A₀ base h₀ L m s Q E B F X N T hk hd hu hret
  refine wpAny_call ?_
  k_dflt ((refine' code_defC ?k1 ?k2 ?k3 ?k4 ?k5 ?kA ?kF ?kK ?k6 ?k7 ?k8 ?k9 ?kB ?kD ?_ ?c2 ?c3 ?c4; (case kA => exact rfl); (case kF => exact rfl); (case kK => assumption); (case k1 => k_asm); (case k2 => k_asm); (case k3 => k_asm); (case k4 => k_asm); (case k5 => k_asm); (case k6 => k_is); (case k7 => k_is); (case k8 => ktr_room); (case k9 => exact BindsTo.of_eq rfl); (case kB => exact rfl); (case kD => decide +kernel); (case c2 => exact rfl); (case c3 => exact rfl); (case c4 => exact rfl); k_whole; intro g' L' h' tk' cells' FG' F' N' Y' B' X' T' l1; (try k_lt l1); k_cells Y'; (try simp only [List.cons_append, List.nil_append] at N'); (try dsimp only); (try k_lift B'); (try k_fold)))
  k_with "CompSrcT" =>
    k_dflt (
      refine LCt.CompSrcT.range (n := (most + 1 - 0).toNat) (by rfl) (by k_asm) (by k_asm) (by assumption) (small_one (by omega) (by omega) (by omega) (by omega)) (rangeSize_nat _ _) (by rw [PySem.sizeLine_eq]; omega) ?_
      intro g'
      refine' kci_range (shG low high most level) (fun k' t' I' oI' C' oC' D' m' ys' l' h' tk' E' hlo' hhi' hI' hC' hx' F' N' off' ne' mk' => ?_) ?_ (shG_grows low high most level))
  k_with "KCiEl" => exact kci_el (if_pos (by assumption)) rfl rfl
  k_with "KCiNo" => exact kci_no (if_neg (by assumption)) rfl
  k_with "subscriptTail Name UnaryOp ref int" =>
    k_dflt (
      have hS := share_last (low := low) (high := high) (most := most) (level := level) (by omega) (by omega) h3
      with_unfolding_all refine' item_list_ints_neg (ns := (rangeKs 0 (most + 1 - 0).toNat).foldl (shG low high most level) []) ?k1 ?k2 ?k3 ?k4 ?k5 ?_
      case k1 => is_list
      case k2 => assumption
      case k3 => decide
      case k4 => omega
      case k5 => decide
      intro t9
      rw [hS.2])
  k_steps
  · rename News _ _ _ _ => nn
    have e : shareF low high most level = 0 := by unfold shareF; rw [if_pos (by assumption)]
    refine hret _ _ _ _ ⟨_, congrArg (fun x => Value.int x _) e.symm, rfl⟩ (by k_asm) (news_sub nn (by intro p hp; simp [hp]))
  · rename News _ _ _ _ => nn
    have e : shareF low high most level = 10000 := by unfold shareF; rw [if_neg (by assumption), if_pos (by assumption)]
    refine hret _ _ _ _ ⟨_, congrArg (fun x => Value.int x _) e.symm, rfl⟩ (by k_asm) (news_sub nn (by intro p hp; simp [hp]))
  · rename News _ _ _ _ => nn
    have e : shareF low high most level = (most * (level - low)).fdiv (high - low) := by unfold shareF; rw [if_neg (by assumption), if_neg (by assumption)]
    refine hret _ _ _ _ ⟨_, congrArg (fun x => Value.int x _) e.symm, rfl⟩ (by k_asm) (news_sub nn (by intro p hp; simp [hp]))
end
section
open PySem PySem.W PySem.Calls PyProof.Rows
set_option maxRecDepth 100000
set_option linter.unusedVariables false
noncomputable abbrev avgObj (w : World) (k1 k2 : Tok) (sh : Int) (t1 : Tok) (p : Int) (t2 : Tok) : Obj :=
  dictOf [⟨PyData.keyHash w.params (Str.ofString "shift"), .str (Str.ofString "shift") k1, .int sh t1⟩, ⟨PyData.keyHash w.params (Str.ofString "parts"), .str (Str.ofString "parts") k2, .int p t2⟩] 2
noncomputable abbrev curveObj (w : World) (k1 k2 k3 : Tok) (low : Int) (t1 : Tok) (high : Int) (t2 : Tok) (most : Int) (t3 : Tok) : Obj :=
  dictOf [⟨PyData.keyHash w.params (Str.ofString "low"), .str (Str.ofString "low") k1, .int low t1⟩, ⟨PyData.keyHash w.params (Str.ofString "high"), .str (Str.ofString "high") k2, .int high t2⟩, ⟨PyData.keyHash w.params (Str.ofString "most"), .str (Str.ofString "most") k3, .int most t3⟩] 3


theorem shareF_lo {low high most level : Int} (h : level ≤ low) : shareF low high most level = 0 := by unfold shareF; rw [if_pos h]
theorem shareF_hi {low high most level : Int} (h : ¬ level ≤ low) (h' : high ≤ level) : shareF low high most level = 10000 := by unfold shareF; rw [if_neg h, if_pos h']
theorem shareF_mid {low high most level : Int} (h : ¬ level ≤ low) (h' : ¬ high ≤ level) : shareF low high most level = (most * (level - low)).fdiv (high - low) := by unfold shareF; rw [if_neg h, if_neg h']

set_option maxHeartbeats 8000000 in
theorem told_ok (w : World) (x dx : Addr) (k1 k2 t1 t2 t3 : Tok) (sh p level : Int) (rest : List (Addr × Obj))
    (ho : OwnOff rest [x, dx]) (hne : @Ne Nat x dx)
    (h0 : 0 ≤ sh) (h1 : sh < 4) (h2 : 0 ≤ p) (h3 : p < 1000000) (h4 : 0 ≤ level) (h5 : level < 1000000) :
    Claim w 2 82 [.ref x, .int level t3] ((x, instObj 85 dx) :: (dx, avgObj w k1 k2 sh t1 p t2) :: rest)
      (fun r news' => ∃ t t2, r = .int (avgVal sh (avgStep sh p level)) t ∧ news' = (x, instObj 85 dx) :: (dx, avgObj w k1 k2 sh t1 (avgStep sh p level) t2) :: rest) := by
  unfold Claim
  k_with_none
  w_top off
  k_with "om" => (first | k_extra "proj" | lia | omega (config := {}))
  k_with "pj" => (first | assumption | exact And.left (by assumption) | exact And.left (And.right (by assumption)) | exact And.left (And.right (And.right (by assumption))) | exact And.left (And.right (And.right (And.right (by assumption)))) | exact And.left (And.right (And.right (And.right (And.right (by assumption))))) | exact And.left (And.right (And.right (And.right (And.right (And.right (by assumption)))))) | exact And.left (And.right (And.right (And.right (And.right (And.right (And.right (by assumption))))))) | exact And.left (And.right (And.right (And.right (And.right (And.right (And.right (And.right (by assumption)))))))) | exact And.left (And.right (And.right (And.right (And.right (And.right (And.right (And.right (And.right (by assumption))))))))) | exact And.left (And.right (And.right (And.right (And.right (And.right (And.right (And.right (And.right (And.right (by assumption)))))))))) | exact And.left (And.right (And.right (And.right (And.right (And.right (And.right (And.right (And.right (And.right (And.right (by assumption))))))))))) | exact And.left (And.right (And.right (And.right (And.right (And.right (And.right (And.right (And.right (And.right (And.right (And.right (by assumption)))))))))))) | exact And.left (And.right (And.right (And.right (And.right (And.right (And.right (And.right (And.right (And.right (And.right (And.right (And.right (by assumption))))))))))))) | exact And.left (And.right (And.right (And.right (And.right (And.right (And.right (And.right (And.right (And.right (And.right (And.right (And.right (And.right (by assumption)))))))))))))) | exact And.right (by assumption) | exact And.right (And.right (by assumption)) | exact And.right (And.right (And.right (by assumption))) | exact And.right (And.right (And.right (And.right (by assumption)))) | exact And.right (And.right (And.right (And.right (And.right (by assumption))))) | exact And.right (And.right (And.right (And.right (And.right (And.right (by assumption)))))) | exact And.right (And.right (And.right (And.right (And.right (And.right (And.right (by assumption))))))) | exact And.right (And.right (And.right (And.right (And.right (And.right (And.right (And.right (by assumption)))))))) | exact And.right (And.right (And.right (And.right (And.right (And.right (And.right (And.right (And.right (by assumption))))))))) | exact And.right (And.right (And.right (And.right (And.right (And.right (And.right (And.right (And.right (And.right (by assumption)))))))))) | exact And.right (And.right (And.right (And.right (And.right (And.right (And.right (And.right (And.right (And.right (And.right (by assumption))))))))))) | exact And.right (And.right (And.right (And.right (And.right (And.right (And.right (And.right (And.right (And.right (And.right (And.right (by assumption)))))))))))) | exact And.right (And.right (And.right (And.right (And.right (And.right (And.right (And.right (And.right (And.right (And.right (And.right (And.right (by assumption))))))))))))))
  k_with "proj" => (first
    | (with_reducible assumption)
    | ((with_reducible show @Ne Nat _ _); (with_reducible first
      | (refine Nat.ne_of_gt ?_; k_extra "pj")
      | (refine Nat.ne_of_lt ?_; k_extra "pj")
      | (refine Nat.ne_of_gt (Nat.lt_trans ?_ (by assumption)); k_extra "pj")
      | (refine Nat.ne_of_lt (Nat.lt_trans ?_ (by assumption)); k_extra "pj")
      | k_extra "pj"
      | (refine Ne.symm ?_; k_extra "pj")
      | (first | exact And.left (And.left (by assumption)) | exact And.left (And.right (And.left (by assumption))) | exact And.right (And.right (And.left (by assumption))) | exact And.left (And.left (And.right (by assumption))) | exact And.left (And.right (And.left (And.right (by assumption)))) | exact And.right (And.right (And.left (And.right (by assumption)))) | exact And.left (And.left (And.right (And.right (by assumption)))) | exact And.left (And.right (And.left (And.right (And.right (by assumption))))) | exact And.right (And.right (And.left (And.right (And.right (by assumption))))) | exact And.left (And.left (And.right (And.right (And.right (by assumption))))) | exact And.left (And.right (And.left (And.right (And.right (And.right (by assumption)))))) | exact And.right (And.right (And.left (And.right (And.right (And.right (by assumption)))))) | exact And.left (And.left (And.right (And.right (And.right (And.right (by assumption)))))) | exact And.left (And.right (And.left (And.right (And.right (And.right (And.right (by assumption))))))) | exact And.right (And.right (And.left (And.right (And.right (And.right (And.right (by assumption))))))) | exact And.left (And.left (And.right (And.right (And.right (And.right (And.right (by assumption))))))) | exact And.left (And.right (And.left (And.right (And.right (And.right (And.right (And.right (by assumption)))))))) | exact And.right (And.right (And.left (And.right (And.right (And.right (And.right (And.right (by assumption)))))))))
      | (refine Ne.symm ?_; (first | exact And.left (And.left (by assumption)) | exact And.left (And.right (And.left (by assumption))) | exact And.right (And.right (And.left (by assumption))) | exact And.left (And.left (And.right (by assumption))) | exact And.left (And.right (And.left (And.right (by assumption)))) | exact And.right (And.right (And.left (And.right (by assumption)))) | exact And.left (And.left (And.right (And.right (by assumption)))) | exact And.left (And.right (And.left (And.right (And.right (by assumption))))) | exact And.right (And.right (And.left (And.right (And.right (by assumption))))) | exact And.left (And.left (And.right (And.right (And.right (by assumption))))) | exact And.left (And.right (And.left (And.right (And.right (And.right (by assumption)))))) | exact And.right (And.right (And.left (And.right (And.right (And.right (by assumption)))))) | exact And.left (And.left (And.right (And.right (And.right (And.right (by assumption)))))) | exact And.left (And.right (And.left (And.right (And.right (And.right (And.right (by assumption))))))) | exact And.right (And.right (And.left (And.right (And.right (And.right (And.right (by assumption))))))) | exact And.left (And.left (And.right (And.right (And.right (And.right (And.right (by assumption))))))) | exact And.left (And.right (And.left (And.right (And.right (And.right (And.right (And.right (by assumption)))))))) | exact And.right (And.right (And.left (And.right (And.right (And.right (And.right (And.right (by assumption))))))))))))
    | ((with_reducible show @LT.lt Nat _ _ _); (with_reducible k_extra "pj"))
    | ((with_reducible show @LE.le Nat _ _ _); (with_reducible first | exact Nat.le_refl _ | (refine Nat.le_of_lt ?_; k_extra "pj")))
    | ((with_reducible refine And.intro ?_ ?_) <;> omega)
    | (with_reducible (first | assumption | exact And.left (by assumption) | exact And.left (And.right (by assumption)) | exact And.left (And.right (And.right (by assumption))) | exact And.right (by assumption) | exact And.right (And.right (by assumption)))))
  k_with "updF" => k_dflt (rename Ap _ _ => hAp9; first | exact upd0 hAp9 | exact upd1 hAp9 | exact upd2 hAp9 | exact upd3 hAp9 | exact upd4 hAp9 | exact upd5 hAp9 | exact upd6 hAp9 | exact upd7 hAp9 | exact upd8 hAp9 | exact upd9 hAp9 | exact upd10 hAp9 | exact upd11 hAp9 | exact upd12 hAp9 | exact upd13 hAp9 | exact upd14 hAp9 | exact upd15 hAp9)
  k_with "upd" => k_dflt (rename Ap _ _ => hAp9; first | exact upe0 hAp9 | exact upe1 hAp9 | exact upe2 hAp9 | exact upe3 hAp9 | exact upe4 hAp9 | exact upe5 hAp9 | exact upe6 hAp9 | exact upe7 hAp9 | exact upe8 hAp9 | exact upe9 hAp9 | exact upe10 hAp9 | exact upe11 hAp9 | exact upe12 hAp9 | exact upe13 hAp9 | exact upe14 hAp9 | exact upe15 hAp9)
  k_with "lt" => ((rename (∀ p ∈ _, _ < _) => hL9); (try (rename Ap _ _ => hAp9; have hRaw := hL9; have hAp := Ap.push hAp9 hL9 rfl)); replace hL9 := allLt_of hL9; dsimp only [AllLt] at hL9)
  k_with "lt2" => ((with_reducible rename @LT.lt Nat _ _ _ => hL8); replace hL8 := ltN hL8; (try (rename Ap _ _ => hAp9; rename (∀ p ∈ _, _ < _) => hRaw9; have hAp := Ap.push2 hAp9 hRaw9 rfl hL8)))
  k_with "all" => (first | exact allLt_ne (by assumption) (by omega) | exact lt_neG (by assumption) (by omega))
  k_with "allmem" => (first | (with_reducible exact List.forall_mem_nil _) | ((with_reducible refine List.forall_mem_cons.mpr (And.intro ?_ ?_)); (focus k_mem); walk_at "allmem") | (intro p hp; (repeat (first | exact hp | apply List.mem_cons_of_mem)); done))
  k_with "storeName int" => k_dflt (refine' store_int ?gqF ?gqN ?_ ?gqa ?gqb; (case gqF => k_asm); (case gqN => k_asm); (case gqa => rfl); (case gqb => rfl); k_whole; intro t' h' tk' F' N'; (try k_sweep))
  k_with "storeName" => k_dflt (refine' store_any ?gqF ?gqN ?_ ?gqa ?gqb; (case gqF => k_asm); (case gqN => k_asm); (case gqa => rfl); (case gqb => rfl); k_whole; intro h' tk' F' N'; (try k_sweep))
  k_with "newTuple" => (k_dflt (first
    | (refine' tup_2 ?gqF ?gqN ?_; (case gqF => k_asm); (case gqN => k_asm); k_whole; intro t1' t2' D' h' tk' F' N' l1)
    | (refine' tup_3 ?gqF ?gqN ?_; (case gqF => k_asm); (case gqN => k_asm); k_whole; intro t1' t2' t3' D' h' tk' F' N' l1)
    | (refine' tup_any ?gqF ?gqN ?_ ?gqz; (case gqF => k_asm); (case gqN => k_asm); (case gqz => exact Nat.le_of_ble_eq_true rfl); k_whole; intro D' h' tk' F' N' l1)); (try k_lt l1); (try k_sweep))
  k_with "newList" => (k_dflt (first
    | (refine' list_4 ?gqF ?gqN ?_; (case gqF => k_asm); (case gqN => k_asm); k_whole; intro t1' t2' t3' t4' D' h' tk' F' N' l1)
    | (refine' list_1 ?gqF ?gqN ?_; (case gqF => k_asm); (case gqN => k_asm); k_whole; intro t1' D' h' tk' F' N' l1)
    | (refine' list_any ?gqF ?gqN ?_ ?gqz; (case gqF => k_asm); (case gqN => k_asm); (case gqz => exact Nat.le_of_ble_eq_true rfl); k_whole; intro D' h' tk' F' N' l1)); (try k_lt l1); (try k_sweep))
  k_with "exec Assign cons Call" => k_fold
  k_with "exec Assign cons Tuple" => k_fold
  k_with "exec If BoolOp cons nil" => k_fold
  k_with "exec If UnaryOp cons nil" => k_fold
  k_with "exec If Compare cons nil" => k_fold
  k_with "exec Assign cons BinOp" => k_fold
  k_with "exec Expr Call" => k_fold
  k_with "exec Assign cons Compare" => k_fold
  k_with "exec Assign cons Subscript" => k_fold
  k_with "exec If Name cons nil" => k_fold
  k_with "gx" => k_dflt (first
    | exact gv_int
    | (refine' gv_name ?gqF ?gqv ?gqa ?gqb ?gqc; (case gqF => k_asm); (case gqa => rfl); (case gqb => rfl); (case gqv => exact @rfl _ (some _)); (case gqc => decide))
    | (refine' gv_cell ?gqN ?gqc ?gqm ?gqd ?gqa ?gqb ?gqe; (case gqa => rfl); (case gqb => rfl); (case gqN => k_asm); (case gqc => rfl); (case gqm => k_mem); (case gqd => k_asm); (case gqe => decide))
    | (refine' gv_glob ?gqF ?gqX ?gqT ?gqe ?gqa ?gqb ?gqc; (case gqF => k_asm); (case gqX => k_asm); (case gqT => k_asm); (case gqa => rfl); (case gqb => rfl); (case gqe => k_is); (case gqc => decide))
    | (refine' gv_add ?gqg ?gqh; (case gqg => k_extra "gx"); (case gqh => k_extra "gx"))
    | (refine' gv_sub ?gqg ?gqh; (case gqg => k_extra "gx"); (case gqh => k_extra "gx"))
    | (refine' gv_attr ?gqg ?gqk1 ?gqk2 ?gqk3 ?gqk4 ?gqk5 ?gqk6 ?gqk7 ?gqk8 ?gqk9 ?gqe; (case gqg => k_extra "gx"); (case gqk1 => k_asm); (case gqk2 => k_asm); (case gqk3 => k_inst); (case gqk4 => k_is); (case gqk5 => k_is); (case gqk6 => k_is); (case gqk7 => k_is); (case gqk8 => k_get); (case gqk9 => k_handed); (case gqe => with_unfolding_all rfl)))
  k_with "gl" => k_dflt (first
    | exact gl_nil
    | (refine' gl_cons ?gqg ?gqh ?gqe; (case gqe => rfl); (case gqg => k_extra "gx"); (case gqh => k_extra "gl")))
  k_with "callWith ref" => (k_dflt (refine' callWith_gv ?gqX ?gqF ?gqk ?gqg ?_ ?gqe ?gqp; (case gqX => k_asm); (case gqF => k_asm); (case gqk => k_is); (case gqe => rfl); (case gqp => rfl); (case gqg => k_extra "gl"); k_whole); (try dsimp only [List.nil_append, List.cons_append]))
  k_with "eval Call Name cons nil" => k_dflt (refine' call_gv ?gqX ?gqF ?gqf ?gqk ?gqg ?_ ?gqc ?gqe ?gqp; (case gqX => k_asm); (case gqF => k_asm); (case gqc => rfl); (case gqe => rfl); (case gqp => rfl); (case gqf => k_extra "gx"); (case gqk => k_is); (case gqg => k_extra "gl"); k_whole)
  k_with "eval Name" => k_dflt (refine' nameX_L ?gqF ?gqv ?_ ?gqa ?gqb ?gqc; (case gqF => k_asm); (case gqa => rfl); (case gqb => rfl); (case gqv => exact @rfl _ (some _)); (case gqc => decide); k_whole)
  k_with "spliced" => (k_dflt (refine' spliced_gv ?gqg ?_; (case gqg => k_extra "gl"); k_whole); (try dsimp only [List.nil_append, List.cons_append]))
  k_with "eval BinOp" => k_dflt (refine' eval_gv ?gqg ?_; (case gqg => k_extra "gx"); k_whole)
  k_with "eval Attribute Name" => k_dflt (refine' eval_gv ?gqg ?_; (case gqg => k_extra "gx"); k_whole)
  k_with "cmp" => k_dflt (first
    | ((with_reducible show wpAny _ _ (isTrue (Expr.Compare _ [CmpOp.Lt] [_] _) _ _) _ _ _); refine' ts_lt ?gqg ?gqh ?_ ?gqm; (case gqm => with_unfolding_all rfl); (case gqg => k_extra "gx"); (case gqh => k_extra "gx"); k_whole)
    | ((with_reducible show wpAny _ _ (isTrue (Expr.Compare _ [CmpOp.LtE] [_] _) _ _) _ _ _); refine' ts_le ?gqg ?gqh ?_ ?gqm; (case gqm => with_unfolding_all rfl); (case gqg => k_extra "gx"); (case gqh => k_extra "gx"); k_whole)
    | ((with_reducible show wpAny _ _ (isTrue (Expr.Compare _ [CmpOp.Gt] [_] _) _ _) _ _ _); refine' ts_gt ?gqg ?gqh ?_ ?gqm; (case gqm => with_unfolding_all rfl); (case gqg => k_extra "gx"); (case gqh => k_extra "gx"); k_whole)
    | ((with_reducible show wpAny _ _ (isTrue (Expr.Compare _ [CmpOp.GtE] [_] _) _ _) _ _ _); refine' ts_ge ?gqg ?gqh ?_ ?gqm; (case gqm => with_unfolding_all rfl); (case gqg => k_extra "gx"); (case gqh => k_extra "gx"); k_whole)
    | ((with_reducible show wpAny _ _ (isTrue (Expr.Compare _ [CmpOp.Eq] [_] _) _ _) _ _ _); refine' ts_eq ?gqg ?gqh ?_ ?gqm; (case gqm => with_unfolding_all rfl); (case gqg => k_extra "gx"); (case gqh => k_extra "gx"); k_whole)
    | ((with_reducible show wpAny _ _ (isTrue (Expr.Compare _ [CmpOp.NotEq] [_] _) _ _) _ _ _); refine' ts_ne ?gqg ?gqh ?_ ?gqm; (case gqm => with_unfolding_all rfl); (case gqg => k_extra "gx"); (case gqh => k_extra "gx"); k_whole))
  k_with "isTrue Compare Name" => k_extra "cmp"
  k_with "isTrue Compare Constant" => k_extra "cmp"
  k_with "isTrue Compare BinOp" => k_extra "cmp"
  k_with "isTrue Compare Attribute" => k_extra "cmp"
  k_with "enter" => (refine' code_any ?k1 ?k2 ?k3 ?k4 ?k5 ?kA ?kF ?kK ?k6 ?k7 ?k8 ?k9 ?kB ?_ ?c2 ?c3 ?c4 ?c5; (case kA => exact rfl); (case kF => exact rfl); (case kK => first | exact rfl | assumption); (case k1 => k_asm); (case k2 => k_asm); (case k3 => k_asm); (case k4 => k_asm); (case k5 => k_asm); (case k6 => k_is); (case k7 => k_is); (case k8 => k_room); (case k9 => first | exact BindsTo.of_eq rfl | exact binds_K (by k_in) rfl (by k_is) rfl rfl rfl); (case c5 => decide); (case kB => exact locs rfl); (case c2 => exact rfl); (case c3 => exact rfl); (case c4 => exact rfl); k_whole; intro g' L' h' tk' FG' F' N' B' X' T'; (try dsimp only); (try k_lift B'); (try k_fold))
  k_with "clsnew" => k_dflt (refine' call_cls ?k1 ?k2 ?k3 ?k4 ?k5 ?k6 ?_; (case k1 => k_asm); (case k2 => k_asm); (case k3 => k_asm); (case k4 => k_is); (case k5 => k_is); (case k6 => k_is); k_whole; intro x' d' h' F' N' l1 l2; (try k_lt l1); (try k_lt2 l2); (try k_sweep); k_extra "enter")
  k_fill
  intro mean mg mb dp un gd cn cs a ccd cl outer A₀ base h₀ L m s Q E B F X N T hk hd hu hret
  refine wpAny_call ?_
  k_dflt (k_extra "enter")
  k_steps
  refine hret _ _ _ _ ⟨_, _, rfl, rfl⟩ (by k_asm) (by k_asm)

set_option maxHeartbeats 8000000 in
theorem share_ok (w : World) (c dc : Addr) (k1 k2 k3 t1 t2 t3 t4 : Tok) (low high most level : Int) (rest : List (Addr × Obj))
    (ho : OwnOff rest [c, dc]) (hne : @Ne Nat c dc)
    (h0 : 0 ≤ low) (h1 : low < high) (h2 : high < 1000) (h3 : 0 ≤ most) (h4 : most < 1000) (h5 : 0 ≤ level) (h6 : level < 100000) :
    Claim w 2 110 [.ref c, .int level t4] ((c, instObj 120 dc) :: (dc, curveObj w k1 k2 k3 low t1 high t2 most t3) :: rest)
      (fun r news' => ∃ t, r = .int (shareF low high most level) t ∧ news' = (c, instObj 120 dc) :: (dc, curveObj w k1 k2 k3 low t1 high t2 most t3) :: rest) := by
  unfold Claim
  k_with_none
  w_top off
  k_with "om" => (first | k_extra "proj" | lia | omega (config := {}))
  k_with "pj" => (first | assumption | exact And.left (by assumption) | exact And.left (And.right (by assumption)) | exact And.left (And.right (And.right (by assumption))) | exact And.left (And.right (And.right (And.right (by assumption)))) | exact And.left (And.right (And.right (And.right (And.right (by assumption))))) | exact And.left (And.right (And.right (And.right (And.right (And.right (by assumption)))))) | exact And.left (And.right (And.right (And.right (And.right (And.right (And.right (by assumption))))))) | exact And.left (And.right (And.right (And.right (And.right (And.right (And.right (And.right (by assumption)))))))) | exact And.left (And.right (And.right (And.right (And.right (And.right (And.right (And.right (And.right (by assumption))))))))) | exact And.left (And.right (And.right (And.right (And.right (And.right (And.right (And.right (And.right (And.right (by assumption)))))))))) | exact And.left (And.right (And.right (And.right (And.right (And.right (And.right (And.right (And.right (And.right (And.right (by assumption))))))))))) | exact And.left (And.right (And.right (And.right (And.right (And.right (And.right (And.right (And.right (And.right (And.right (And.right (by assumption)))))))))))) | exact And.left (And.right (And.right (And.right (And.right (And.right (And.right (And.right (And.right (And.right (And.right (And.right (And.right (by assumption))))))))))))) | exact And.left (And.right (And.right (And.right (And.right (And.right (And.right (And.right (And.right (And.right (And.right (And.right (And.right (And.right (by assumption)))))))))))))) | exact And.right (by assumption) | exact And.right (And.right (by assumption)) | exact And.right (And.right (And.right (by assumption))) | exact And.right (And.right (And.right (And.right (by assumption)))) | exact And.right (And.right (And.right (And.right (And.right (by assumption))))) | exact And.right (And.right (And.right (And.right (And.right (And.right (by assumption)))))) | exact And.right (And.right (And.right (And.right (And.right (And.right (And.right (by assumption))))))) | exact And.right (And.right (And.right (And.right (And.right (And.right (And.right (And.right (by assumption)))))))) | exact And.right (And.right (And.right (And.right (And.right (And.right (And.right (And.right (And.right (by assumption))))))))) | exact And.right (And.right (And.right (And.right (And.right (And.right (And.right (And.right (And.right (And.right (by assumption)))))))))) | exact And.right (And.right (And.right (And.right (And.right (And.right (And.right (And.right (And.right (And.right (And.right (by assumption))))))))))) | exact And.right (And.right (And.right (And.right (And.right (And.right (And.right (And.right (And.right (And.right (And.right (And.right (by assumption)))))))))))) | exact And.right (And.right (And.right (And.right (And.right (And.right (And.right (And.right (And.right (And.right (And.right (And.right (And.right (by assumption))))))))))))))
  k_with "proj" => (first
    | (with_reducible assumption)
    | ((with_reducible show @Ne Nat _ _); (with_reducible first
      | (refine Nat.ne_of_gt ?_; k_extra "pj")
      | (refine Nat.ne_of_lt ?_; k_extra "pj")
      | (refine Nat.ne_of_gt (Nat.lt_trans ?_ (by assumption)); k_extra "pj")
      | (refine Nat.ne_of_lt (Nat.lt_trans ?_ (by assumption)); k_extra "pj")
      | k_extra "pj"
      | (refine Ne.symm ?_; k_extra "pj")
      | (first | exact And.left (And.left (by assumption)) | exact And.left (And.right (And.left (by assumption))) | exact And.right (And.right (And.left (by assumption))) | exact And.left (And.left (And.right (by assumption))) | exact And.left (And.right (And.left (And.right (by assumption)))) | exact And.right (And.right (And.left (And.right (by assumption)))) | exact And.left (And.left (And.right (And.right (by assumption)))) | exact And.left (And.right (And.left (And.right (And.right (by assumption))))) | exact And.right (And.right (And.left (And.right (And.right (by assumption))))) | exact And.left (And.left (And.right (And.right (And.right (by assumption))))) | exact And.left (And.right (And.left (And.right (And.right (And.right (by assumption)))))) | exact And.right (And.right (And.left (And.right (And.right (And.right (by assumption)))))) | exact And.left (And.left (And.right (And.right (And.right (And.right (by assumption)))))) | exact And.left (And.right (And.left (And.right (And.right (And.right (And.right (by assumption))))))) | exact And.right (And.right (And.left (And.right (And.right (And.right (And.right (by assumption))))))) | exact And.left (And.left (And.right (And.right (And.right (And.right (And.right (by assumption))))))) | exact And.left (And.right (And.left (And.right (And.right (And.right (And.right (And.right (by assumption)))))))) | exact And.right (And.right (And.left (And.right (And.right (And.right (And.right (And.right (by assumption)))))))))
      | (refine Ne.symm ?_; (first | exact And.left (And.left (by assumption)) | exact And.left (And.right (And.left (by assumption))) | exact And.right (And.right (And.left (by assumption))) | exact And.left (And.left (And.right (by assumption))) | exact And.left (And.right (And.left (And.right (by assumption)))) | exact And.right (And.right (And.left (And.right (by assumption)))) | exact And.left (And.left (And.right (And.right (by assumption)))) | exact And.left (And.right (And.left (And.right (And.right (by assumption))))) | exact And.right (And.right (And.left (And.right (And.right (by assumption))))) | exact And.left (And.left (And.right (And.right (And.right (by assumption))))) | exact And.left (And.right (And.left (And.right (And.right (And.right (by assumption)))))) | exact And.right (And.right (And.left (And.right (And.right (And.right (by assumption)))))) | exact And.left (And.left (And.right (And.right (And.right (And.right (by assumption)))))) | exact And.left (And.right (And.left (And.right (And.right (And.right (And.right (by assumption))))))) | exact And.right (And.right (And.left (And.right (And.right (And.right (And.right (by assumption))))))) | exact And.left (And.left (And.right (And.right (And.right (And.right (And.right (by assumption))))))) | exact And.left (And.right (And.left (And.right (And.right (And.right (And.right (And.right (by assumption)))))))) | exact And.right (And.right (And.left (And.right (And.right (And.right (And.right (And.right (by assumption))))))))))))
    | ((with_reducible show @LT.lt Nat _ _ _); (with_reducible k_extra "pj"))
    | ((with_reducible show @LE.le Nat _ _ _); (with_reducible first | exact Nat.le_refl _ | (refine Nat.le_of_lt ?_; k_extra "pj")))
    | ((with_reducible refine And.intro ?_ ?_) <;> omega)
    | (with_reducible (first | assumption | exact And.left (by assumption) | exact And.left (And.right (by assumption)) | exact And.left (And.right (And.right (by assumption))) | exact And.right (by assumption) | exact And.right (And.right (by assumption)))))
  k_with "updF" => k_dflt (rename Ap _ _ => hAp9; first | exact upd0 hAp9 | exact upd1 hAp9 | exact upd2 hAp9 | exact upd3 hAp9 | exact upd4 hAp9 | exact upd5 hAp9 | exact upd6 hAp9 | exact upd7 hAp9 | exact upd8 hAp9 | exact upd9 hAp9 | exact upd10 hAp9 | exact upd11 hAp9 | exact upd12 hAp9 | exact upd13 hAp9 | exact upd14 hAp9 | exact upd15 hAp9)
  k_with "upd" => k_dflt (rename Ap _ _ => hAp9; first | exact upe0 hAp9 | exact upe1 hAp9 | exact upe2 hAp9 | exact upe3 hAp9 | exact upe4 hAp9 | exact upe5 hAp9 | exact upe6 hAp9 | exact upe7 hAp9 | exact upe8 hAp9 | exact upe9 hAp9 | exact upe10 hAp9 | exact upe11 hAp9 | exact upe12 hAp9 | exact upe13 hAp9 | exact upe14 hAp9 | exact upe15 hAp9)
  k_with "lt" => ((rename (∀ p ∈ _, _ < _) => hL9); (try (rename Ap _ _ => hAp9; have hRaw := hL9; have hAp := Ap.push hAp9 hL9 rfl)); replace hL9 := allLt_of hL9; dsimp only [AllLt] at hL9)
  k_with "lt2" => ((with_reducible rename @LT.lt Nat _ _ _ => hL8); replace hL8 := ltN hL8; (try (rename Ap _ _ => hAp9; rename (∀ p ∈ _, _ < _) => hRaw9; have hAp := Ap.push2 hAp9 hRaw9 rfl hL8)))
  k_with "all" => (first | exact allLt_ne (by assumption) (by omega) | exact lt_neG (by assumption) (by omega))
  k_with "allmem" => (first | (with_reducible exact List.forall_mem_nil _) | ((with_reducible refine List.forall_mem_cons.mpr (And.intro ?_ ?_)); (focus k_mem); walk_at "allmem") | (intro p hp; (repeat (first | exact hp | apply List.mem_cons_of_mem)); done))
  k_with "storeName int" => k_dflt (refine' store_int ?gqF ?gqN ?_ ?gqa ?gqb; (case gqF => k_asm); (case gqN => k_asm); (case gqa => rfl); (case gqb => rfl); k_whole; intro t' h' tk' F' N'; (try k_sweep))
  k_with "storeName" => k_dflt (refine' store_any ?gqF ?gqN ?_ ?gqa ?gqb; (case gqF => k_asm); (case gqN => k_asm); (case gqa => rfl); (case gqb => rfl); k_whole; intro h' tk' F' N'; (try k_sweep))
  k_with "newTuple" => (k_dflt (first
    | (refine' tup_2 ?gqF ?gqN ?_; (case gqF => k_asm); (case gqN => k_asm); k_whole; intro t1' t2' D' h' tk' F' N' l1)
    | (refine' tup_3 ?gqF ?gqN ?_; (case gqF => k_asm); (case gqN => k_asm); k_whole; intro t1' t2' t3' D' h' tk' F' N' l1)
    | (refine' tup_any ?gqF ?gqN ?_ ?gqz; (case gqF => k_asm); (case gqN => k_asm); (case gqz => exact Nat.le_of_ble_eq_true rfl); k_whole; intro D' h' tk' F' N' l1)); (try k_lt l1); (try k_sweep))
  k_with "newList" => (k_dflt (first
    | (refine' list_4 ?gqF ?gqN ?_; (case gqF => k_asm); (case gqN => k_asm); k_whole; intro t1' t2' t3' t4' D' h' tk' F' N' l1)
    | (refine' list_1 ?gqF ?gqN ?_; (case gqF => k_asm); (case gqN => k_asm); k_whole; intro t1' D' h' tk' F' N' l1)
    | (refine' list_any ?gqF ?gqN ?_ ?gqz; (case gqF => k_asm); (case gqN => k_asm); (case gqz => exact Nat.le_of_ble_eq_true rfl); k_whole; intro D' h' tk' F' N' l1)); (try k_lt l1); (try k_sweep))
  k_with "exec Assign cons Call" => k_fold
  k_with "exec Assign cons Tuple" => k_fold
  k_with "exec If BoolOp cons nil" => k_fold
  k_with "exec If UnaryOp cons nil" => k_fold
  k_with "exec If Compare cons nil" => k_fold
  k_with "exec Assign cons BinOp" => k_fold
  k_with "exec Expr Call" => k_fold
  k_with "exec Assign cons Compare" => k_fold
  k_with "exec Assign cons Subscript" => k_fold
  k_with "exec If Name cons nil" => k_fold
  k_with "gx" => k_dflt (first
    | exact gv_int
    | (refine' gv_name ?gqF ?gqv ?gqa ?gqb ?gqc; (case gqF => k_asm); (case gqa => rfl); (case gqb => rfl); (case gqv => exact @rfl _ (some _)); (case gqc => decide))
    | (refine' gv_cell ?gqN ?gqc ?gqm ?gqd ?gqa ?gqb ?gqe; (case gqa => rfl); (case gqb => rfl); (case gqN => k_asm); (case gqc => rfl); (case gqm => k_mem); (case gqd => k_asm); (case gqe => decide))
    | (refine' gv_glob ?gqF ?gqX ?gqT ?gqe ?gqa ?gqb ?gqc; (case gqF => k_asm); (case gqX => k_asm); (case gqT => k_asm); (case gqa => rfl); (case gqb => rfl); (case gqe => k_is); (case gqc => decide))
    | (refine' gv_add ?gqg ?gqh; (case gqg => k_extra "gx"); (case gqh => k_extra "gx"))
    | (refine' gv_sub ?gqg ?gqh; (case gqg => k_extra "gx"); (case gqh => k_extra "gx"))
    | (refine' gv_attr ?gqg ?gqk1 ?gqk2 ?gqk3 ?gqk4 ?gqk5 ?gqk6 ?gqk7 ?gqk8 ?gqk9 ?gqe; (case gqg => k_extra "gx"); (case gqk1 => k_asm); (case gqk2 => k_asm); (case gqk3 => k_inst); (case gqk4 => k_is); (case gqk5 => k_is); (case gqk6 => k_is); (case gqk7 => k_is); (case gqk8 => k_get); (case gqk9 => k_handed); (case gqe => with_unfolding_all rfl)))
  k_with "gl" => k_dflt (first
    | exact gl_nil
    | (refine' gl_cons ?gqg ?gqh ?gqe; (case gqe => rfl); (case gqg => k_extra "gx"); (case gqh => k_extra "gl")))
  k_with "callWith ref" => (k_dflt (refine' callWith_gv ?gqX ?gqF ?gqk ?gqg ?_ ?gqe ?gqp; (case gqX => k_asm); (case gqF => k_asm); (case gqk => k_is); (case gqe => rfl); (case gqp => rfl); (case gqg => k_extra "gl"); k_whole); (try dsimp only [List.nil_append, List.cons_append]))
  k_with "eval Call Name cons nil" => k_dflt (refine' call_gv ?gqX ?gqF ?gqf ?gqk ?gqg ?_ ?gqc ?gqe ?gqp; (case gqX => k_asm); (case gqF => k_asm); (case gqc => rfl); (case gqe => rfl); (case gqp => rfl); (case gqf => k_extra "gx"); (case gqk => k_is); (case gqg => k_extra "gl"); k_whole)
  k_with "eval Name" => k_dflt (refine' nameX_L ?gqF ?gqv ?_ ?gqa ?gqb ?gqc; (case gqF => k_asm); (case gqa => rfl); (case gqb => rfl); (case gqv => exact @rfl _ (some _)); (case gqc => decide); k_whole)
  k_with "spliced" => (k_dflt (refine' spliced_gv ?gqg ?_; (case gqg => k_extra "gl"); k_whole); (try dsimp only [List.nil_append, List.cons_append]))
  k_with "eval BinOp" => k_dflt (refine' eval_gv ?gqg ?_; (case gqg => k_extra "gx"); k_whole)
  k_with "eval Attribute Name" => k_dflt (refine' eval_gv ?gqg ?_; (case gqg => k_extra "gx"); k_whole)
  k_with "cmp" => k_dflt (first
    | ((with_reducible show wpAny _ _ (isTrue (Expr.Compare _ [CmpOp.Lt] [_] _) _ _) _ _ _); refine' ts_lt ?gqg ?gqh ?_ ?gqm; (case gqm => with_unfolding_all rfl); (case gqg => k_extra "gx"); (case gqh => k_extra "gx"); k_whole)
    | ((with_reducible show wpAny _ _ (isTrue (Expr.Compare _ [CmpOp.LtE] [_] _) _ _) _ _ _); refine' ts_le ?gqg ?gqh ?_ ?gqm; (case gqm => with_unfolding_all rfl); (case gqg => k_extra "gx"); (case gqh => k_extra "gx"); k_whole)
    | ((with_reducible show wpAny _ _ (isTrue (Expr.Compare _ [CmpOp.Gt] [_] _) _ _) _ _ _); refine' ts_gt ?gqg ?gqh ?_ ?gqm; (case gqm => with_unfolding_all rfl); (case gqg => k_extra "gx"); (case gqh => k_extra "gx"); k_whole)
    | ((with_reducible show wpAny _ _ (isTrue (Expr.Compare _ [CmpOp.GtE] [_] _) _ _) _ _ _); refine' ts_ge ?gqg ?gqh ?_ ?gqm; (case gqm => with_unfolding_all rfl); (case gqg => k_extra "gx"); (case gqh => k_extra "gx"); k_whole)
    | ((with_reducible show wpAny _ _ (isTrue (Expr.Compare _ [CmpOp.Eq] [_] _) _ _) _ _ _); refine' ts_eq ?gqg ?gqh ?_ ?gqm; (case gqm => with_unfolding_all rfl); (case gqg => k_extra "gx"); (case gqh => k_extra "gx"); k_whole)
    | ((with_reducible show wpAny _ _ (isTrue (Expr.Compare _ [CmpOp.NotEq] [_] _) _ _) _ _ _); refine' ts_ne ?gqg ?gqh ?_ ?gqm; (case gqm => with_unfolding_all rfl); (case gqg => k_extra "gx"); (case gqh => k_extra "gx"); k_whole))
  k_with "isTrue Compare Name" => k_extra "cmp"
  k_with "isTrue Compare Constant" => k_extra "cmp"
  k_with "isTrue Compare BinOp" => k_extra "cmp"
  k_with "isTrue Compare Attribute" => k_extra "cmp"
  k_with "enter" => (refine' code_any ?k1 ?k2 ?k3 ?k4 ?k5 ?kA ?kF ?kK ?k6 ?k7 ?k8 ?k9 ?kB ?_ ?c2 ?c3 ?c4 ?c5; (case kA => exact rfl); (case kF => exact rfl); (case kK => first | exact rfl | assumption); (case k1 => k_asm); (case k2 => k_asm); (case k3 => k_asm); (case k4 => k_asm); (case k5 => k_asm); (case k6 => k_is); (case k7 => k_is); (case k8 => k_room); (case k9 => first | exact BindsTo.of_eq rfl | exact binds_K (by k_in) rfl (by k_is) rfl rfl rfl); (case c5 => decide); (case kB => exact locs rfl); (case c2 => exact rfl); (case c3 => exact rfl); (case c4 => exact rfl); k_whole; intro g' L' h' tk' FG' F' N' B' X' T'; (try dsimp only); (try k_lift B'); (try k_fold))
  k_with "clsnew" => k_dflt (refine' call_cls ?k1 ?k2 ?k3 ?k4 ?k5 ?k6 ?_; (case k1 => k_asm); (case k2 => k_asm); (case k3 => k_asm); (case k4 => k_is); (case k5 => k_is); (case k6 => k_is); k_whole; intro x' d' h' F' N' l1 l2; (try k_lt l1); (try k_lt2 l2); (try k_sweep); k_extra "enter")
  k_fill
  intro mean mg mb dp un gd cn cs a ccd cl outer A₀ base h₀ L m s Q E B F X N T hk hd hu hret
  refine wpAny_call ?_
  k_dflt (k_extra "enter")
  k_steps
  · refine hret _ _ _ _ ⟨_, congrArg (fun x => Value.int x _) (shareF_lo (by assumption)).symm, rfl⟩ (by k_asm) (by k_asm)
  · refine hret _ _ _ _ ⟨_, congrArg (fun x => Value.int x _) (shareF_hi (by assumption) (by assumption)).symm, rfl⟩ (by k_asm) (by k_asm)
  · refine hret _ _ _ _ ⟨_, congrArg (fun x => Value.int x _) (shareF_mid (by assumption) (by assumption)).symm, rfl⟩ (by k_asm) (by k_asm)

set_option maxHeartbeats 8000000 in
theorem drops_ok (w : World) (c dc : Addr) (k1 k2 k3 t1 t2 t3 t4 t5 : Tok) (low high most level told : Int) (rest : List (Addr × Obj))
    (ho : OwnOff rest [c, dc]) (hne : @Ne Nat c dc)
    (h0 : 0 ≤ low) (h1 : low < high) (h2 : high < 1000) (h3 : 0 ≤ most) (h4 : most < 1000) (h5 : 0 ≤ level) (h6 : level < 100000) :
    Claim w 3 117 [.ref c, .int level t4, .int told t5] ((c, instObj 120 dc) :: (dc, curveObj w k1 k2 k3 low t1 high t2 most t3) :: rest)
      (fun r news' => r = .bool (decide (told < shareF low high most level)) ∧ news' = (c, instObj 120 dc) :: (dc, curveObj w k1 k2 k3 low t1 high t2 most t3) :: rest) := by
  unfold Claim
  k_with_none
  w_top off
  k_with "om" => (first | k_extra "proj" | lia | omega (config := {}))
  k_with "pj" => (first | assumption | exact And.left (by assumption) | exact And.left (And.right (by assumption)) | exact And.left (And.right (And.right (by assumption))) | exact And.left (And.right (And.right (And.right (by assumption)))) | exact And.left (And.right (And.right (And.right (And.right (by assumption))))) | exact And.left (And.right (And.right (And.right (And.right (And.right (by assumption)))))) | exact And.left (And.right (And.right (And.right (And.right (And.right (And.right (by assumption))))))) | exact And.left (And.right (And.right (And.right (And.right (And.right (And.right (And.right (by assumption)))))))) | exact And.left (And.right (And.right (And.right (And.right (And.right (And.right (And.right (And.right (by assumption))))))))) | exact And.left (And.right (And.right (And.right (And.right (And.right (And.right (And.right (And.right (And.right (by assumption)))))))))) | exact And.left (And.right (And.right (And.right (And.right (And.right (And.right (And.right (And.right (And.right (And.right (by assumption))))))))))) | exact And.left (And.right (And.right (And.right (And.right (And.right (And.right (And.right (And.right (And.right (And.right (And.right (by assumption)))))))))))) | exact And.left (And.right (And.right (And.right (And.right (And.right (And.right (And.right (And.right (And.right (And.right (And.right (And.right (by assumption))))))))))))) | exact And.left (And.right (And.right (And.right (And.right (And.right (And.right (And.right (And.right (And.right (And.right (And.right (And.right (And.right (by assumption)))))))))))))) | exact And.right (by assumption) | exact And.right (And.right (by assumption)) | exact And.right (And.right (And.right (by assumption))) | exact And.right (And.right (And.right (And.right (by assumption)))) | exact And.right (And.right (And.right (And.right (And.right (by assumption))))) | exact And.right (And.right (And.right (And.right (And.right (And.right (by assumption)))))) | exact And.right (And.right (And.right (And.right (And.right (And.right (And.right (by assumption))))))) | exact And.right (And.right (And.right (And.right (And.right (And.right (And.right (And.right (by assumption)))))))) | exact And.right (And.right (And.right (And.right (And.right (And.right (And.right (And.right (And.right (by assumption))))))))) | exact And.right (And.right (And.right (And.right (And.right (And.right (And.right (And.right (And.right (And.right (by assumption)))))))))) | exact And.right (And.right (And.right (And.right (And.right (And.right (And.right (And.right (And.right (And.right (And.right (by assumption))))))))))) | exact And.right (And.right (And.right (And.right (And.right (And.right (And.right (And.right (And.right (And.right (And.right (And.right (by assumption)))))))))))) | exact And.right (And.right (And.right (And.right (And.right (And.right (And.right (And.right (And.right (And.right (And.right (And.right (And.right (by assumption))))))))))))))
  k_with "proj" => (first
    | (with_reducible assumption)
    | ((with_reducible show @Ne Nat _ _); (with_reducible first
      | (refine Nat.ne_of_gt ?_; k_extra "pj")
      | (refine Nat.ne_of_lt ?_; k_extra "pj")
      | (refine Nat.ne_of_gt (Nat.lt_trans ?_ (by assumption)); k_extra "pj")
      | (refine Nat.ne_of_lt (Nat.lt_trans ?_ (by assumption)); k_extra "pj")
      | k_extra "pj"
      | (refine Ne.symm ?_; k_extra "pj")
      | (first | exact And.left (And.left (by assumption)) | exact And.left (And.right (And.left (by assumption))) | exact And.right (And.right (And.left (by assumption))) | exact And.left (And.left (And.right (by assumption))) | exact And.left (And.right (And.left (And.right (by assumption)))) | exact And.right (And.right (And.left (And.right (by assumption)))) | exact And.left (And.left (And.right (And.right (by assumption)))) | exact And.left (And.right (And.left (And.right (And.right (by assumption))))) | exact And.right (And.right (And.left (And.right (And.right (by assumption))))) | exact And.left (And.left (And.right (And.right (And.right (by assumption))))) | exact And.left (And.right (And.left (And.right (And.right (And.right (by assumption)))))) | exact And.right (And.right (And.left (And.right (And.right (And.right (by assumption)))))) | exact And.left (And.left (And.right (And.right (And.right (And.right (by assumption)))))) | exact And.left (And.right (And.left (And.right (And.right (And.right (And.right (by assumption))))))) | exact And.right (And.right (And.left (And.right (And.right (And.right (And.right (by assumption))))))) | exact And.left (And.left (And.right (And.right (And.right (And.right (And.right (by assumption))))))) | exact And.left (And.right (And.left (And.right (And.right (And.right (And.right (And.right (by assumption)))))))) | exact And.right (And.right (And.left (And.right (And.right (And.right (And.right (And.right (by assumption)))))))))
      | (refine Ne.symm ?_; (first | exact And.left (And.left (by assumption)) | exact And.left (And.right (And.left (by assumption))) | exact And.right (And.right (And.left (by assumption))) | exact And.left (And.left (And.right (by assumption))) | exact And.left (And.right (And.left (And.right (by assumption)))) | exact And.right (And.right (And.left (And.right (by assumption)))) | exact And.left (And.left (And.right (And.right (by assumption)))) | exact And.left (And.right (And.left (And.right (And.right (by assumption))))) | exact And.right (And.right (And.left (And.right (And.right (by assumption))))) | exact And.left (And.left (And.right (And.right (And.right (by assumption))))) | exact And.left (And.right (And.left (And.right (And.right (And.right (by assumption)))))) | exact And.right (And.right (And.left (And.right (And.right (And.right (by assumption)))))) | exact And.left (And.left (And.right (And.right (And.right (And.right (by assumption)))))) | exact And.left (And.right (And.left (And.right (And.right (And.right (And.right (by assumption))))))) | exact And.right (And.right (And.left (And.right (And.right (And.right (And.right (by assumption))))))) | exact And.left (And.left (And.right (And.right (And.right (And.right (And.right (by assumption))))))) | exact And.left (And.right (And.left (And.right (And.right (And.right (And.right (And.right (by assumption)))))))) | exact And.right (And.right (And.left (And.right (And.right (And.right (And.right (And.right (by assumption))))))))))))
    | ((with_reducible show @LT.lt Nat _ _ _); (with_reducible k_extra "pj"))
    | ((with_reducible show @LE.le Nat _ _ _); (with_reducible first | exact Nat.le_refl _ | (refine Nat.le_of_lt ?_; k_extra "pj")))
    | ((with_reducible refine And.intro ?_ ?_) <;> omega)
    | (with_reducible (first | assumption | exact And.left (by assumption) | exact And.left (And.right (by assumption)) | exact And.left (And.right (And.right (by assumption))) | exact And.right (by assumption) | exact And.right (And.right (by assumption)))))
  k_with "updF" => k_dflt (rename Ap _ _ => hAp9; first | exact upd0 hAp9 | exact upd1 hAp9 | exact upd2 hAp9 | exact upd3 hAp9 | exact upd4 hAp9 | exact upd5 hAp9 | exact upd6 hAp9 | exact upd7 hAp9 | exact upd8 hAp9 | exact upd9 hAp9 | exact upd10 hAp9 | exact upd11 hAp9 | exact upd12 hAp9 | exact upd13 hAp9 | exact upd14 hAp9 | exact upd15 hAp9)
  k_with "upd" => k_dflt (rename Ap _ _ => hAp9; first | exact upe0 hAp9 | exact upe1 hAp9 | exact upe2 hAp9 | exact upe3 hAp9 | exact upe4 hAp9 | exact upe5 hAp9 | exact upe6 hAp9 | exact upe7 hAp9 | exact upe8 hAp9 | exact upe9 hAp9 | exact upe10 hAp9 | exact upe11 hAp9 | exact upe12 hAp9 | exact upe13 hAp9 | exact upe14 hAp9 | exact upe15 hAp9)
  k_with "lt" => ((rename (∀ p ∈ _, _ < _) => hL9); (try (rename Ap _ _ => hAp9; have hRaw := hL9; have hAp := Ap.push hAp9 hL9 rfl)); replace hL9 := allLt_of hL9; dsimp only [AllLt] at hL9)
  k_with "lt2" => ((with_reducible rename @LT.lt Nat _ _ _ => hL8); replace hL8 := ltN hL8; (try (rename Ap _ _ => hAp9; rename (∀ p ∈ _, _ < _) => hRaw9; have hAp := Ap.push2 hAp9 hRaw9 rfl hL8)))
  k_with "all" => (first | exact allLt_ne (by assumption) (by omega) | exact lt_neG (by assumption) (by omega))
  k_with "allmem" => (first | (with_reducible exact List.forall_mem_nil _) | ((with_reducible refine List.forall_mem_cons.mpr (And.intro ?_ ?_)); (focus k_mem); walk_at "allmem") | (intro p hp; (repeat (first | exact hp | apply List.mem_cons_of_mem)); done))
  k_with "storeName int" => k_dflt (refine' store_int ?gqF ?gqN ?_ ?gqa ?gqb; (case gqF => k_asm); (case gqN => k_asm); (case gqa => rfl); (case gqb => rfl); k_whole; intro t' h' tk' F' N'; (try k_sweep))
  k_with "storeName" => k_dflt (refine' store_any ?gqF ?gqN ?_ ?gqa ?gqb; (case gqF => k_asm); (case gqN => k_asm); (case gqa => rfl); (case gqb => rfl); k_whole; intro h' tk' F' N'; (try k_sweep))
  k_with "newTuple" => (k_dflt (first
    | (refine' tup_2 ?gqF ?gqN ?_; (case gqF => k_asm); (case gqN => k_asm); k_whole; intro t1' t2' D' h' tk' F' N' l1)
    | (refine' tup_3 ?gqF ?gqN ?_; (case gqF => k_asm); (case gqN => k_asm); k_whole; intro t1' t2' t3' D' h' tk' F' N' l1)
    | (refine' tup_any ?gqF ?gqN ?_ ?gqz; (case gqF => k_asm); (case gqN => k_asm); (case gqz => exact Nat.le_of_ble_eq_true rfl); k_whole; intro D' h' tk' F' N' l1)); (try k_lt l1); (try k_sweep))
  k_with "newList" => (k_dflt (first
    | (refine' list_4 ?gqF ?gqN ?_; (case gqF => k_asm); (case gqN => k_asm); k_whole; intro t1' t2' t3' t4' D' h' tk' F' N' l1)
    | (refine' list_1 ?gqF ?gqN ?_; (case gqF => k_asm); (case gqN => k_asm); k_whole; intro t1' D' h' tk' F' N' l1)
    | (refine' list_any ?gqF ?gqN ?_ ?gqz; (case gqF => k_asm); (case gqN => k_asm); (case gqz => exact Nat.le_of_ble_eq_true rfl); k_whole; intro D' h' tk' F' N' l1)); (try k_lt l1); (try k_sweep))
  k_with "exec Assign cons Call" => k_fold
  k_with "exec Assign cons Tuple" => k_fold
  k_with "exec If BoolOp cons nil" => k_fold
  k_with "exec If UnaryOp cons nil" => k_fold
  k_with "exec If Compare cons nil" => k_fold
  k_with "exec Assign cons BinOp" => k_fold
  k_with "exec Expr Call" => k_fold
  k_with "exec Assign cons Compare" => k_fold
  k_with "exec Assign cons Subscript" => k_fold
  k_with "exec If Name cons nil" => k_fold
  k_with "gx" => k_dflt (first
    | exact gv_int
    | (refine' gv_name ?gqF ?gqv ?gqa ?gqb ?gqc; (case gqF => k_asm); (case gqa => rfl); (case gqb => rfl); (case gqv => exact @rfl _ (some _)); (case gqc => decide))
    | (refine' gv_cell ?gqN ?gqc ?gqm ?gqd ?gqa ?gqb ?gqe; (case gqa => rfl); (case gqb => rfl); (case gqN => k_asm); (case gqc => rfl); (case gqm => k_mem); (case gqd => k_asm); (case gqe => decide))
    | (refine' gv_glob ?gqF ?gqX ?gqT ?gqe ?gqa ?gqb ?gqc; (case gqF => k_asm); (case gqX => k_asm); (case gqT => k_asm); (case gqa => rfl); (case gqb => rfl); (case gqe => k_is); (case gqc => decide))
    | (refine' gv_add ?gqg ?gqh; (case gqg => k_extra "gx"); (case gqh => k_extra "gx"))
    | (refine' gv_sub ?gqg ?gqh; (case gqg => k_extra "gx"); (case gqh => k_extra "gx"))
    | (refine' gv_attr ?gqg ?gqk1 ?gqk2 ?gqk3 ?gqk4 ?gqk5 ?gqk6 ?gqk7 ?gqk8 ?gqk9 ?gqe; (case gqg => k_extra "gx"); (case gqk1 => k_asm); (case gqk2 => k_asm); (case gqk3 => k_inst); (case gqk4 => k_is); (case gqk5 => k_is); (case gqk6 => k_is); (case gqk7 => k_is); (case gqk8 => k_get); (case gqk9 => k_handed); (case gqe => with_unfolding_all rfl)))
  k_with "gl" => k_dflt (first
    | exact gl_nil
    | (refine' gl_cons ?gqg ?gqh ?gqe; (case gqe => rfl); (case gqg => k_extra "gx"); (case gqh => k_extra "gl")))
  k_with "callWith ref" => (k_dflt (refine' callWith_gv ?gqX ?gqF ?gqk ?gqg ?_ ?gqe ?gqp; (case gqX => k_asm); (case gqF => k_asm); (case gqk => k_is); (case gqe => rfl); (case gqp => rfl); (case gqg => k_extra "gl"); k_whole); (try dsimp only [List.nil_append, List.cons_append]))
  k_with "eval Call Name cons nil" => k_dflt (refine' call_gv ?gqX ?gqF ?gqf ?gqk ?gqg ?_ ?gqc ?gqe ?gqp; (case gqX => k_asm); (case gqF => k_asm); (case gqc => rfl); (case gqe => rfl); (case gqp => rfl); (case gqf => k_extra "gx"); (case gqk => k_is); (case gqg => k_extra "gl"); k_whole)
  k_with "eval Name" => k_dflt (refine' nameX_L ?gqF ?gqv ?_ ?gqa ?gqb ?gqc; (case gqF => k_asm); (case gqa => rfl); (case gqb => rfl); (case gqv => exact @rfl _ (some _)); (case gqc => decide); k_whole)
  k_with "spliced" => (k_dflt (refine' spliced_gv ?gqg ?_; (case gqg => k_extra "gl"); k_whole); (try dsimp only [List.nil_append, List.cons_append]))
  k_with "eval BinOp" => k_dflt (refine' eval_gv ?gqg ?_; (case gqg => k_extra "gx"); k_whole)
  k_with "eval Attribute Name" => k_dflt (refine' eval_gv ?gqg ?_; (case gqg => k_extra "gx"); k_whole)
  k_with "cmp" => k_dflt (first
    | ((with_reducible show wpAny _ _ (isTrue (Expr.Compare _ [CmpOp.Lt] [_] _) _ _) _ _ _); refine' ts_lt ?gqg ?gqh ?_ ?gqm; (case gqm => with_unfolding_all rfl); (case gqg => k_extra "gx"); (case gqh => k_extra "gx"); k_whole)
    | ((with_reducible show wpAny _ _ (isTrue (Expr.Compare _ [CmpOp.LtE] [_] _) _ _) _ _ _); refine' ts_le ?gqg ?gqh ?_ ?gqm; (case gqm => with_unfolding_all rfl); (case gqg => k_extra "gx"); (case gqh => k_extra "gx"); k_whole)
    | ((with_reducible show wpAny _ _ (isTrue (Expr.Compare _ [CmpOp.Gt] [_] _) _ _) _ _ _); refine' ts_gt ?gqg ?gqh ?_ ?gqm; (case gqm => with_unfolding_all rfl); (case gqg => k_extra "gx"); (case gqh => k_extra "gx"); k_whole)
    | ((with_reducible show wpAny _ _ (isTrue (Expr.Compare _ [CmpOp.GtE] [_] _) _ _) _ _ _); refine' ts_ge ?gqg ?gqh ?_ ?gqm; (case gqm => with_unfolding_all rfl); (case gqg => k_extra "gx"); (case gqh => k_extra "gx"); k_whole)
    | ((with_reducible show wpAny _ _ (isTrue (Expr.Compare _ [CmpOp.Eq] [_] _) _ _) _ _ _); refine' ts_eq ?gqg ?gqh ?_ ?gqm; (case gqm => with_unfolding_all rfl); (case gqg => k_extra "gx"); (case gqh => k_extra "gx"); k_whole)
    | ((with_reducible show wpAny _ _ (isTrue (Expr.Compare _ [CmpOp.NotEq] [_] _) _ _) _ _ _); refine' ts_ne ?gqg ?gqh ?_ ?gqm; (case gqm => with_unfolding_all rfl); (case gqg => k_extra "gx"); (case gqh => k_extra "gx"); k_whole))
  k_with "isTrue Compare Name" => k_extra "cmp"
  k_with "isTrue Compare Constant" => k_extra "cmp"
  k_with "isTrue Compare BinOp" => k_extra "cmp"
  k_with "isTrue Compare Attribute" => k_extra "cmp"
  k_with "enter" => (refine' code_any ?k1 ?k2 ?k3 ?k4 ?k5 ?kA ?kF ?kK ?k6 ?k7 ?k8 ?k9 ?kB ?_ ?c2 ?c3 ?c4 ?c5; (case kA => exact rfl); (case kF => exact rfl); (case kK => first | exact rfl | assumption); (case k1 => k_asm); (case k2 => k_asm); (case k3 => k_asm); (case k4 => k_asm); (case k5 => k_asm); (case k6 => k_is); (case k7 => k_is); (case k8 => k_room); (case k9 => first | exact BindsTo.of_eq rfl | exact binds_K (by k_in) rfl (by k_is) rfl rfl rfl); (case c5 => decide); (case kB => exact locs rfl); (case c2 => exact rfl); (case c3 => exact rfl); (case c4 => exact rfl); k_whole; intro g' L' h' tk' FG' F' N' B' X' T'; (try dsimp only); (try k_lift B'); (try k_fold))
  k_with "clsnew" => k_dflt (refine' call_cls ?k1 ?k2 ?k3 ?k4 ?k5 ?k6 ?_; (case k1 => k_asm); (case k2 => k_asm); (case k3 => k_asm); (case k4 => k_is); (case k5 => k_is); (case k6 => k_is); k_whole; intro x' d' h' F' N' l1 l2; (try k_lt l1); (try k_lt2 l2); (try k_sweep); k_extra "enter")
  k_fill
  intro mean mg mb dp un gd cn cs a ccd cl outer A₀ base h₀ L m s Q E B F X N T hk hd hu hret
  k_with "call ref" => k_dflt (
    (with_reducible show wpAny _ _ (call (Value.ref 110) _) _ _ _)
    refine' claim_use (share_ok w c dc k1 k2 k3 t1 t2 t3 _ low high most level rest ho hne h0 h1 h2 h3 h4 h5 h6) ?k1 ?k2 ?k3 ?k4 ?k5 ?kK ?kd ?ku ?_
    (case k1 => k_asm)
    (case k2 => k_asm)
    (case k3 => k_asm)
    (case k5 => k_asm)
    (case k4 => k_asm)
    (case kK => first | exact rfl | assumption)
    (case kd => first | exact room1 (by assumption) (by decide) | exact room2 (by assumption) (by decide) | ktr_room)
    (case ku => first | exact room1 (by assumption) (by decide) | exact room2 (by assumption) (by decide) | ktr_units)
    intro r9 n9 h9 tk9 hr9 F9 N9
    obtain ⟨t9, rfl, rfl⟩ := hr9
    (try dsimp only)
    (try k_fold)
    skip)
  refine wpAny_call ?_
  k_dflt (k_extra "enter")
  k_steps
  exact hret _ _ _ _ ⟨rfl, rfl⟩ (by k_asm) (by k_asm)
end
section
open PySem PySem.W PySem.Calls PyProof.Rows
set_option maxRecDepth 100000
set_option linter.unusedVariables false
section
variable {w : World} {mean : ExcName → Option Value} {mg mb : Str → Option Value} {dp un : Nat} {gd : Option (List Code)} {cn : Str} {cs : Scope} {a : Addr} {ccd : Value} {cl : List (Str × Addr)} {outer : List Env} {A₀ : Around} {base h₀ : Heap} {L : Addr} {m : Str → Option Value} {s : Shared} {Q E : Value → Shared → Prop}
  {news : List (Addr × Obj)}
/-- a curve that can be is made -/
theorem curve_new {low high most : Int} {t1 t2 t3 : Tok}
    (B : Below A₀ base outer h₀) (F : Fr h₀ L s.heap m) (X : (hd.heap_39 w.params).In h₀) (N : News h₀ L s.heap news) (T : Top hd.view_39 (looseW hd.view_39 [Str.ofString "SettingError"]) mean mg mb h₀) (hk : cs.kind = .function)
    (h0 : 0 ≤ low) (h1 : low < high) (h2 : 0 ≤ most) (h3 : most ≤ 10000) (hd : dp + 4 < recursionLimit) (hu : un + 32 < cLine)
    (ret : ∀ (x d : Addr) (k1 k2 k3 t1' t2' t3' : Tok) h' tk', (∀ p ∈ news, p.1 < d) → @LT.lt Nat _ d x → Fr h₀ L h' m → News h₀ L h' ((x, instObj 120 d) :: (d, curveObj w k1 k2 k3 low t1' high t2' most t3') :: news) → Q (.ref x) { s with heap := h', toks := tk' }) :
    wpAny (model PySem.Challenge.rw_pc0359_01.row.prog w) (ktrTop dp un gd cn cs L a ccd cl outer) (call (.ref 120) [.int low t1, .int high t2, .int most t3]) Q E s := by
  k_with_none
  w_top off
  k_with "om" => (first | k_extra "proj" | lia | omega (config := {}))
  k_with "pj" => (first | assumption | exact And.left (by assumption) | exact And.left (And.right (by assumption)) | exact And.left (And.right (And.right (by assumption))) | exact And.left (And.right (And.right (And.right (by assumption)))) | exact And.left (And.right (And.right (And.right (And.right (by assumption))))) | exact And.left (And.right (And.right (And.right (And.right (And.right (by assumption)))))) | exact And.left (And.right (And.right (And.right (And.right (And.right (And.right (by assumption))))))) | exact And.left (And.right (And.right (And.right (And.right (And.right (And.right (And.right (by assumption)))))))) | exact And.left (And.right (And.right (And.right (And.right (And.right (And.right (And.right (And.right (by assumption))))))))) | exact And.left (And.right (And.right (And.right (And.right (And.right (And.right (And.right (And.right (And.right (by assumption)))))))))) | exact And.left (And.right (And.right (And.right (And.right (And.right (And.right (And.right (And.right (And.right (And.right (by assumption))))))))))) | exact And.left (And.right (And.right (And.right (And.right (And.right (And.right (And.right (And.right (And.right (And.right (And.right (by assumption)))))))))))) | exact And.left (And.right (And.right (And.right (And.right (And.right (And.right (And.right (And.right (And.right (And.right (And.right (And.right (by assumption))))))))))))) | exact And.left (And.right (And.right (And.right (And.right (And.right (And.right (And.right (And.right (And.right (And.right (And.right (And.right (And.right (by assumption)))))))))))))) | exact And.right (by assumption) | exact And.right (And.right (by assumption)) | exact And.right (And.right (And.right (by assumption))) | exact And.right (And.right (And.right (And.right (by assumption)))) | exact And.right (And.right (And.right (And.right (And.right (by assumption))))) | exact And.right (And.right (And.right (And.right (And.right (And.right (by assumption)))))) | exact And.right (And.right (And.right (And.right (And.right (And.right (And.right (by assumption))))))) | exact And.right (And.right (And.right (And.right (And.right (And.right (And.right (And.right (by assumption)))))))) | exact And.right (And.right (And.right (And.right (And.right (And.right (And.right (And.right (And.right (by assumption))))))))) | exact And.right (And.right (And.right (And.right (And.right (And.right (And.right (And.right (And.right (And.right (by assumption)))))))))) | exact And.right (And.right (And.right (And.right (And.right (And.right (And.right (And.right (And.right (And.right (And.right (by assumption))))))))))) | exact And.right (And.right (And.right (And.right (And.right (And.right (And.right (And.right (And.right (And.right (And.right (And.right (by assumption)))))))))))) | exact And.right (And.right (And.right (And.right (And.right (And.right (And.right (And.right (And.right (And.right (And.right (And.right (And.right (by assumption))))))))))))))
  k_with "proj" => (first
    | (with_reducible assumption)
    | ((with_reducible show @Ne Nat _ _); (with_reducible first
      | (refine Nat.ne_of_gt ?_; k_extra "pj")
      | (refine Nat.ne_of_lt ?_; k_extra "pj")
      | (refine Nat.ne_of_gt (Nat.lt_trans ?_ (by assumption)); k_extra "pj")
      | (refine Nat.ne_of_lt (Nat.lt_trans ?_ (by assumption)); k_extra "pj")
      | k_extra "pj"
      | (refine Ne.symm ?_; k_extra "pj")
      | (first | exact And.left (And.left (by assumption)) | exact And.left (And.right (And.left (by assumption))) | exact And.right (And.right (And.left (by assumption))) | exact And.left (And.left (And.right (by assumption))) | exact And.left (And.right (And.left (And.right (by assumption)))) | exact And.right (And.right (And.left (And.right (by assumption)))) | exact And.left (And.left (And.right (And.right (by assumption)))) | exact And.left (And.right (And.left (And.right (And.right (by assumption))))) | exact And.right (And.right (And.left (And.right (And.right (by assumption))))) | exact And.left (And.left (And.right (And.right (And.right (by assumption))))) | exact And.left (And.right (And.left (And.right (And.right (And.right (by assumption)))))) | exact And.right (And.right (And.left (And.right (And.right (And.right (by assumption)))))) | exact And.left (And.left (And.right (And.right (And.right (And.right (by assumption)))))) | exact And.left (And.right (And.left (And.right (And.right (And.right (And.right (by assumption))))))) | exact And.right (And.right (And.left (And.right (And.right (And.right (And.right (by assumption))))))) | exact And.left (And.left (And.right (And.right (And.right (And.right (And.right (by assumption))))))) | exact And.left (And.right (And.left (And.right (And.right (And.right (And.right (And.right (by assumption)))))))) | exact And.right (And.right (And.left (And.right (And.right (And.right (And.right (And.right (by assumption)))))))))
      | (refine Ne.symm ?_; (first | exact And.left (And.left (by assumption)) | exact And.left (And.right (And.left (by assumption))) | exact And.right (And.right (And.left (by assumption))) | exact And.left (And.left (And.right (by assumption))) | exact And.left (And.right (And.left (And.right (by assumption)))) | exact And.right (And.right (And.left (And.right (by assumption)))) | exact And.left (And.left (And.right (And.right (by assumption)))) | exact And.left (And.right (And.left (And.right (And.right (by assumption))))) | exact And.right (And.right (And.left (And.right (And.right (by assumption))))) | exact And.left (And.left (And.right (And.right (And.right (by assumption))))) | exact And.left (And.right (And.left (And.right (And.right (And.right (by assumption)))))) | exact And.right (And.right (And.left (And.right (And.right (And.right (by assumption)))))) | exact And.left (And.left (And.right (And.right (And.right (And.right (by assumption)))))) | exact And.left (And.right (And.left (And.right (And.right (And.right (And.right (by assumption))))))) | exact And.right (And.right (And.left (And.right (And.right (And.right (And.right (by assumption))))))) | exact And.left (And.left (And.right (And.right (And.right (And.right (And.right (by assumption))))))) | exact And.left (And.right (And.left (And.right (And.right (And.right (And.right (And.right (by assumption)))))))) | exact And.right (And.right (And.left (And.right (And.right (And.right (And.right (And.right (by assumption))))))))))))
    | ((with_reducible show @LT.lt Nat _ _ _); (with_reducible k_extra "pj"))
    | ((with_reducible show @LE.le Nat _ _ _); (with_reducible first | exact Nat.le_refl _ | (refine Nat.le_of_lt ?_; k_extra "pj")))
    | ((with_reducible refine And.intro ?_ ?_) <;> omega)
    | (with_reducible (first | assumption | exact And.left (by assumption) | exact And.left (And.right (by assumption)) | exact And.left (And.right (And.right (by assumption))) | exact And.right (by assumption) | exact And.right (And.right (by assumption)))))
  k_with "updF" => k_dflt (rename Ap _ _ => hAp9; first | exact upd0 hAp9 | exact upd1 hAp9 | exact upd2 hAp9 | exact upd3 hAp9 | exact upd4 hAp9 | exact upd5 hAp9 | exact upd6 hAp9 | exact upd7 hAp9 | exact upd8 hAp9 | exact upd9 hAp9 | exact upd10 hAp9 | exact upd11 hAp9 | exact upd12 hAp9 | exact upd13 hAp9 | exact upd14 hAp9 | exact upd15 hAp9)
  k_with "upd" => k_dflt (rename Ap _ _ => hAp9; first | exact upe0 hAp9 | exact upe1 hAp9 | exact upe2 hAp9 | exact upe3 hAp9 | exact upe4 hAp9 | exact upe5 hAp9 | exact upe6 hAp9 | exact upe7 hAp9 | exact upe8 hAp9 | exact upe9 hAp9 | exact upe10 hAp9 | exact upe11 hAp9 | exact upe12 hAp9 | exact upe13 hAp9 | exact upe14 hAp9 | exact upe15 hAp9)
  k_with "lt" => ((rename (∀ p ∈ _, _ < _) => hL9); (try (rename Ap _ _ => hAp9; have hRaw := hL9; have hAp := Ap.push hAp9 hL9 rfl)); replace hL9 := allLt_of hL9; dsimp only [AllLt] at hL9)
  k_with "lt2" => ((with_reducible rename @LT.lt Nat _ _ _ => hL8); replace hL8 := ltN hL8; (try (rename Ap _ _ => hAp9; rename (∀ p ∈ _, _ < _) => hRaw9; have hAp := Ap.push2 hAp9 hRaw9 rfl hL8)))
  k_with "all" => (first | exact allLt_ne (by assumption) (by omega) | exact lt_neG (by assumption) (by omega))
  k_with "allmem" => (first | (with_reducible exact List.forall_mem_nil _) | ((with_reducible refine List.forall_mem_cons.mpr (And.intro ?_ ?_)); (focus k_mem); walk_at "allmem") | (intro p hp; (repeat (first | exact hp | apply List.mem_cons_of_mem)); done))
  k_with "storeName int" => k_dflt (refine' store_int ?gqF ?gqN ?_ ?gqa ?gqb; (case gqF => k_asm); (case gqN => k_asm); (case gqa => rfl); (case gqb => rfl); k_whole; intro t' h' tk' F' N'; (try k_sweep))
  k_with "storeName" => k_dflt (refine' store_any ?gqF ?gqN ?_ ?gqa ?gqb; (case gqF => k_asm); (case gqN => k_asm); (case gqa => rfl); (case gqb => rfl); k_whole; intro h' tk' F' N'; (try k_sweep))
  k_with "newTuple" => (k_dflt (first
    | (refine' tup_2 ?gqF ?gqN ?_; (case gqF => k_asm); (case gqN => k_asm); k_whole; intro t1' t2' D' h' tk' F' N' l1)
    | (refine' tup_3 ?gqF ?gqN ?_; (case gqF => k_asm); (case gqN => k_asm); k_whole; intro t1' t2' t3' D' h' tk' F' N' l1)
    | (refine' tup_any ?gqF ?gqN ?_ ?gqz; (case gqF => k_asm); (case gqN => k_asm); (case gqz => exact Nat.le_of_ble_eq_true rfl); k_whole; intro D' h' tk' F' N' l1)); (try k_lt l1); (try k_sweep))
  k_with "newList" => (k_dflt (first
    | (refine' list_4 ?gqF ?gqN ?_; (case gqF => k_asm); (case gqN => k_asm); k_whole; intro t1' t2' t3' t4' D' h' tk' F' N' l1)
    | (refine' list_1 ?gqF ?gqN ?_; (case gqF => k_asm); (case gqN => k_asm); k_whole; intro t1' D' h' tk' F' N' l1)
    | (refine' list_any ?gqF ?gqN ?_ ?gqz; (case gqF => k_asm); (case gqN => k_asm); (case gqz => exact Nat.le_of_ble_eq_true rfl); k_whole; intro D' h' tk' F' N' l1)); (try k_lt l1); (try k_sweep))
  k_with "exec Assign cons Call" => k_fold
  k_with "exec Assign cons Tuple" => k_fold
  k_with "exec If BoolOp cons nil" => k_fold
  k_with "exec If UnaryOp cons nil" => k_fold
  k_with "exec If Compare cons nil" => k_fold
  k_with "exec Assign cons BinOp" => k_fold
  k_with "exec Expr Call" => k_fold
  k_with "exec Assign cons Compare" => k_fold
  k_with "exec Assign cons Subscript" => k_fold
  k_with "exec If Name cons nil" => k_fold
  k_with "gx" => k_dflt (first
    | exact gv_int
    | (refine' gv_name ?gqF ?gqv ?gqa ?gqb ?gqc; (case gqF => k_asm); (case gqa => rfl); (case gqb => rfl); (case gqv => exact @rfl _ (some _)); (case gqc => decide))
    | (refine' gv_cell ?gqN ?gqc ?gqm ?gqd ?gqa ?gqb ?gqe; (case gqa => rfl); (case gqb => rfl); (case gqN => k_asm); (case gqc => rfl); (case gqm => k_mem); (case gqd => k_asm); (case gqe => decide))
    | (refine' gv_glob ?gqF ?gqX ?gqT ?gqe ?gqa ?gqb ?gqc; (case gqF => k_asm); (case gqX => k_asm); (case gqT => k_asm); (case gqa => rfl); (case gqb => rfl); (case gqe => k_is); (case gqc => decide))
    | (refine' gv_add ?gqg ?gqh; (case gqg => k_extra "gx"); (case gqh => k_extra "gx"))
    | (refine' gv_sub ?gqg ?gqh; (case gqg => k_extra "gx"); (case gqh => k_extra "gx"))
    | (refine' gv_attr ?gqg ?gqk1 ?gqk2 ?gqk3 ?gqk4 ?gqk5 ?gqk6 ?gqk7 ?gqk8 ?gqk9 ?gqe; (case gqg => k_extra "gx"); (case gqk1 => k_asm); (case gqk2 => k_asm); (case gqk3 => k_inst); (case gqk4 => k_is); (case gqk5 => k_is); (case gqk6 => k_is); (case gqk7 => k_is); (case gqk8 => k_get); (case gqk9 => k_handed); (case gqe => with_unfolding_all rfl)))
  k_with "gl" => k_dflt (first
    | exact gl_nil
    | (refine' gl_cons ?gqg ?gqh ?gqe; (case gqe => rfl); (case gqg => k_extra "gx"); (case gqh => k_extra "gl")))
  k_with "callWith ref" => (k_dflt (refine' callWith_gv ?gqX ?gqF ?gqk ?gqg ?_ ?gqe ?gqp; (case gqX => k_asm); (case gqF => k_asm); (case gqk => k_is); (case gqe => rfl); (case gqp => rfl); (case gqg => k_extra "gl"); k_whole); (try dsimp only [List.nil_append, List.cons_append]))
  k_with "eval Call Name cons nil" => k_dflt (refine' call_gv ?gqX ?gqF ?gqf ?gqk ?gqg ?_ ?gqc ?gqe ?gqp; (case gqX => k_asm); (case gqF => k_asm); (case gqc => rfl); (case gqe => rfl); (case gqp => rfl); (case gqf => k_extra "gx"); (case gqk => k_is); (case gqg => k_extra "gl"); k_whole)
  k_with "eval Name" => k_dflt (refine' nameX_L ?gqF ?gqv ?_ ?gqa ?gqb ?gqc; (case gqF => k_asm); (case gqa => rfl); (case gqb => rfl); (case gqv => exact @rfl _ (some _)); (case gqc => decide); k_whole)
  k_with "spliced" => (k_dflt (refine' spliced_gv ?gqg ?_; (case gqg => k_extra "gl"); k_whole); (try dsimp only [List.nil_append, List.cons_append]))
  k_with "eval BinOp" => k_dflt (refine' eval_gv ?gqg ?_; (case gqg => k_extra "gx"); k_whole)
  k_with "eval Attribute Name" => k_dflt (refine' eval_gv ?gqg ?_; (case gqg => k_extra "gx"); k_whole)
  k_with "cmp" => k_dflt (first
    | ((with_reducible show wpAny _ _ (isTrue (Expr.Compare _ [CmpOp.Lt] [_] _) _ _) _ _ _); refine' ts_lt ?gqg ?gqh ?_ ?gqm; (case gqm => with_unfolding_all rfl); (case gqg => k_extra "gx"); (case gqh => k_extra "gx"); k_whole)
    | ((with_reducible show wpAny _ _ (isTrue (Expr.Compare _ [CmpOp.LtE] [_] _) _ _) _ _ _); refine' ts_le ?gqg ?gqh ?_ ?gqm; (case gqm => with_unfolding_all rfl); (case gqg => k_extra "gx"); (case gqh => k_extra "gx"); k_whole)
    | ((with_reducible show wpAny _ _ (isTrue (Expr.Compare _ [CmpOp.Gt] [_] _) _ _) _ _ _); refine' ts_gt ?gqg ?gqh ?_ ?gqm; (case gqm => with_unfolding_all rfl); (case gqg => k_extra "gx"); (case gqh => k_extra "gx"); k_whole)
    | ((with_reducible show wpAny _ _ (isTrue (Expr.Compare _ [CmpOp.GtE] [_] _) _ _) _ _ _); refine' ts_ge ?gqg ?gqh ?_ ?gqm; (case gqm => with_unfolding_all rfl); (case gqg => k_extra "gx"); (case gqh => k_extra "gx"); k_whole)
    | ((with_reducible show wpAny _ _ (isTrue (Expr.Compare _ [CmpOp.Eq] [_] _) _ _) _ _ _); refine' ts_eq ?gqg ?gqh ?_ ?gqm; (case gqm => with_unfolding_all rfl); (case gqg => k_extra "gx"); (case gqh => k_extra "gx"); k_whole)
    | ((with_reducible show wpAny _ _ (isTrue (Expr.Compare _ [CmpOp.NotEq] [_] _) _ _) _ _ _); refine' ts_ne ?gqg ?gqh ?_ ?gqm; (case gqm => with_unfolding_all rfl); (case gqg => k_extra "gx"); (case gqh => k_extra "gx"); k_whole))
  k_with "isTrue Compare Name" => k_extra "cmp"
  k_with "isTrue Compare Constant" => k_extra "cmp"
  k_with "isTrue Compare BinOp" => k_extra "cmp"
  k_with "isTrue Compare Attribute" => k_extra "cmp"
  k_with "enter" => (refine' code_any ?k1 ?k2 ?k3 ?k4 ?k5 ?kA ?kF ?kK ?k6 ?k7 ?k8 ?k9 ?kB ?_ ?c2 ?c3 ?c4 ?c5; (case kA => exact rfl); (case kF => exact rfl); (case kK => first | exact rfl | assumption); (case k1 => k_asm); (case k2 => k_asm); (case k3 => k_asm); (case k4 => k_asm); (case k5 => k_asm); (case k6 => k_is); (case k7 => k_is); (case k8 => k_room); (case k9 => first | exact BindsTo.of_eq rfl | exact binds_K (by k_in) rfl (by k_is) rfl rfl rfl); (case c5 => decide); (case kB => exact locs rfl); (case c2 => exact rfl); (case c3 => exact rfl); (case c4 => exact rfl); k_whole; intro g' L' h' tk' FG' F' N' B' X' T'; (try dsimp only); (try k_lift B'); (try k_fold))
  k_with "clsnew" => k_dflt (refine' call_cls ?k1 ?k2 ?k3 ?k4 ?k5 ?k6 ?_; (case k1 => k_asm); (case k2 => k_asm); (case k3 => k_asm); (case k4 => k_is); (case k5 => k_is); (case k6 => k_is); k_whole; intro x' d' h' F' N' l1 l2; (try k_lt l1); (try k_lt2 l2); (try k_sweep); k_extra "enter")
  revert X; k_fill; intro X
  k_with "call ref" => k_extra "clsnew"
  k_with "isTrue BoolOp Or cons" => ((fail_if_success (with_reducible show wpAny _ _ _ (TkPost _ _ _ _ _) _ _)); k_dflt (refine' test_join false ?tj1 ?tj2); (case tj1 => (k_steps; all_goals (exact ⟨rfl, _, rfl⟩))); intro tk'; (try dsimp only))
  k_steps
  all_goals (exact ret _ _ _ _ _ _ _ _ _ _ (by assumption) (by assumption) (by k_asm) (by k_asm))
/-- an average is made -/
theorem avg_new {sh : Int} {t1 : Tok}
    (B : Below A₀ base outer h₀) (F : Fr h₀ L s.heap m) (X : (hd.heap_39 w.params).In h₀) (N : News h₀ L s.heap news) (T : Top hd.view_39 (looseW hd.view_39 [Str.ofString "SettingError"]) mean mg mb h₀) (hk : cs.kind = .function)
    (hd : dp + 4 < recursionLimit) (hu : un + 32 < cLine)
    (ret : ∀ (x d : Addr) (k1 k2 t1' t2' : Tok) h' tk', (∀ p ∈ news, p.1 < d) → @LT.lt Nat _ d x → Fr h₀ L h' m → News h₀ L h' ((x, instObj 85 d) :: (d, avgObj w k1 k2 sh t1' 0 t2') :: news) → Q (.ref x) { s with heap := h', toks := tk' }) :
    wpAny (model PySem.Challenge.rw_pc0359_01.row.prog w) (ktrTop dp un gd cn cs L a ccd cl outer) (call (.ref 85) [.int sh t1]) Q E s := by
  k_with_none
  w_top off
  k_with "om" => (first | k_extra "proj" | lia | omega (config := {}))
  k_with "pj" => (first | assumption | exact And.left (by assumption) | exact And.left (And.right (by assumption)) | exact And.left (And.right (And.right (by assumption))) | exact And.left (And.right (And.right (And.right (by assumption)))) | exact And.left (And.right (And.right (And.right (And.right (by assumption))))) | exact And.left (And.right (And.right (And.right (And.right (And.right (by assumption)))))) | exact And.left (And.right (And.right (And.right (And.right (And.right (And.right (by assumption))))))) | exact And.left (And.right (And.right (And.right (And.right (And.right (And.right (And.right (by assumption)))))))) | exact And.left (And.right (And.right (And.right (And.right (And.right (And.right (And.right (And.right (by assumption))))))))) | exact And.left (And.right (And.right (And.right (And.right (And.right (And.right (And.right (And.right (And.right (by assumption)))))))))) | exact And.left (And.right (And.right (And.right (And.right (And.right (And.right (And.right (And.right (And.right (And.right (by assumption))))))))))) | exact And.left (And.right (And.right (And.right (And.right (And.right (And.right (And.right (And.right (And.right (And.right (And.right (by assumption)))))))))))) | exact And.left (And.right (And.right (And.right (And.right (And.right (And.right (And.right (And.right (And.right (And.right (And.right (And.right (by assumption))))))))))))) | exact And.left (And.right (And.right (And.right (And.right (And.right (And.right (And.right (And.right (And.right (And.right (And.right (And.right (And.right (by assumption)))))))))))))) | exact And.right (by assumption) | exact And.right (And.right (by assumption)) | exact And.right (And.right (And.right (by assumption))) | exact And.right (And.right (And.right (And.right (by assumption)))) | exact And.right (And.right (And.right (And.right (And.right (by assumption))))) | exact And.right (And.right (And.right (And.right (And.right (And.right (by assumption)))))) | exact And.right (And.right (And.right (And.right (And.right (And.right (And.right (by assumption))))))) | exact And.right (And.right (And.right (And.right (And.right (And.right (And.right (And.right (by assumption)))))))) | exact And.right (And.right (And.right (And.right (And.right (And.right (And.right (And.right (And.right (by assumption))))))))) | exact And.right (And.right (And.right (And.right (And.right (And.right (And.right (And.right (And.right (And.right (by assumption)))))))))) | exact And.right (And.right (And.right (And.right (And.right (And.right (And.right (And.right (And.right (And.right (And.right (by assumption))))))))))) | exact And.right (And.right (And.right (And.right (And.right (And.right (And.right (And.right (And.right (And.right (And.right (And.right (by assumption)))))))))))) | exact And.right (And.right (And.right (And.right (And.right (And.right (And.right (And.right (And.right (And.right (And.right (And.right (And.right (by assumption))))))))))))))
  k_with "proj" => (first
    | (with_reducible assumption)
    | ((with_reducible show @Ne Nat _ _); (with_reducible first
      | (refine Nat.ne_of_gt ?_; k_extra "pj")
      | (refine Nat.ne_of_lt ?_; k_extra "pj")
      | (refine Nat.ne_of_gt (Nat.lt_trans ?_ (by assumption)); k_extra "pj")
      | (refine Nat.ne_of_lt (Nat.lt_trans ?_ (by assumption)); k_extra "pj")
      | k_extra "pj"
      | (refine Ne.symm ?_; k_extra "pj")
      | (first | exact And.left (And.left (by assumption)) | exact And.left (And.right (And.left (by assumption))) | exact And.right (And.right (And.left (by assumption))) | exact And.left (And.left (And.right (by assumption))) | exact And.left (And.right (And.left (And.right (by assumption)))) | exact And.right (And.right (And.left (And.right (by assumption)))) | exact And.left (And.left (And.right (And.right (by assumption)))) | exact And.left (And.right (And.left (And.right (And.right (by assumption))))) | exact And.right (And.right (And.left (And.right (And.right (by assumption))))) | exact And.left (And.left (And.right (And.right (And.right (by assumption))))) | exact And.left (And.right (And.left (And.right (And.right (And.right (by assumption)))))) | exact And.right (And.right (And.left (And.right (And.right (And.right (by assumption)))))) | exact And.left (And.left (And.right (And.right (And.right (And.right (by assumption)))))) | exact And.left (And.right (And.left (And.right (And.right (And.right (And.right (by assumption))))))) | exact And.right (And.right (And.left (And.right (And.right (And.right (And.right (by assumption))))))) | exact And.left (And.left (And.right (And.right (And.right (And.right (And.right (by assumption))))))) | exact And.left (And.right (And.left (And.right (And.right (And.right (And.right (And.right (by assumption)))))))) | exact And.right (And.right (And.left (And.right (And.right (And.right (And.right (And.right (by assumption)))))))))
      | (refine Ne.symm ?_; (first | exact And.left (And.left (by assumption)) | exact And.left (And.right (And.left (by assumption))) | exact And.right (And.right (And.left (by assumption))) | exact And.left (And.left (And.right (by assumption))) | exact And.left (And.right (And.left (And.right (by assumption)))) | exact And.right (And.right (And.left (And.right (by assumption)))) | exact And.left (And.left (And.right (And.right (by assumption)))) | exact And.left (And.right (And.left (And.right (And.right (by assumption))))) | exact And.right (And.right (And.left (And.right (And.right (by assumption))))) | exact And.left (And.left (And.right (And.right (And.right (by assumption))))) | exact And.left (And.right (And.left (And.right (And.right (And.right (by assumption)))))) | exact And.right (And.right (And.left (And.right (And.right (And.right (by assumption)))))) | exact And.left (And.left (And.right (And.right (And.right (And.right (by assumption)))))) | exact And.left (And.right (And.left (And.right (And.right (And.right (And.right (by assumption))))))) | exact And.right (And.right (And.left (And.right (And.right (And.right (And.right (by assumption))))))) | exact And.left (And.left (And.right (And.right (And.right (And.right (And.right (by assumption))))))) | exact And.left (And.right (And.left (And.right (And.right (And.right (And.right (And.right (by assumption)))))))) | exact And.right (And.right (And.left (And.right (And.right (And.right (And.right (And.right (by assumption))))))))))))
    | ((with_reducible show @LT.lt Nat _ _ _); (with_reducible k_extra "pj"))
    | ((with_reducible show @LE.le Nat _ _ _); (with_reducible first | exact Nat.le_refl _ | (refine Nat.le_of_lt ?_; k_extra "pj")))
    | ((with_reducible refine And.intro ?_ ?_) <;> omega)
    | (with_reducible (first | assumption | exact And.left (by assumption) | exact And.left (And.right (by assumption)) | exact And.left (And.right (And.right (by assumption))) | exact And.right (by assumption) | exact And.right (And.right (by assumption)))))
  k_with "updF" => k_dflt (rename Ap _ _ => hAp9; first | exact upd0 hAp9 | exact upd1 hAp9 | exact upd2 hAp9 | exact upd3 hAp9 | exact upd4 hAp9 | exact upd5 hAp9 | exact upd6 hAp9 | exact upd7 hAp9 | exact upd8 hAp9 | exact upd9 hAp9 | exact upd10 hAp9 | exact upd11 hAp9 | exact upd12 hAp9 | exact upd13 hAp9 | exact upd14 hAp9 | exact upd15 hAp9)
  k_with "upd" => k_dflt (rename Ap _ _ => hAp9; first | exact upe0 hAp9 | exact upe1 hAp9 | exact upe2 hAp9 | exact upe3 hAp9 | exact upe4 hAp9 | exact upe5 hAp9 | exact upe6 hAp9 | exact upe7 hAp9 | exact upe8 hAp9 | exact upe9 hAp9 | exact upe10 hAp9 | exact upe11 hAp9 | exact upe12 hAp9 | exact upe13 hAp9 | exact upe14 hAp9 | exact upe15 hAp9)
  k_with "lt" => ((rename (∀ p ∈ _, _ < _) => hL9); (try (rename Ap _ _ => hAp9; have hRaw := hL9; have hAp := Ap.push hAp9 hL9 rfl)); replace hL9 := allLt_of hL9; dsimp only [AllLt] at hL9)
  k_with "lt2" => ((with_reducible rename @LT.lt Nat _ _ _ => hL8); replace hL8 := ltN hL8; (try (rename Ap _ _ => hAp9; rename (∀ p ∈ _, _ < _) => hRaw9; have hAp := Ap.push2 hAp9 hRaw9 rfl hL8)))
  k_with "all" => (first | exact allLt_ne (by assumption) (by omega) | exact lt_neG (by assumption) (by omega))
  k_with "allmem" => (first | (with_reducible exact List.forall_mem_nil _) | ((with_reducible refine List.forall_mem_cons.mpr (And.intro ?_ ?_)); (focus k_mem); walk_at "allmem") | (intro p hp; (repeat (first | exact hp | apply List.mem_cons_of_mem)); done))
  k_with "storeName int" => k_dflt (refine' store_int ?gqF ?gqN ?_ ?gqa ?gqb; (case gqF => k_asm); (case gqN => k_asm); (case gqa => rfl); (case gqb => rfl); k_whole; intro t' h' tk' F' N'; (try k_sweep))
  k_with "storeName" => k_dflt (refine' store_any ?gqF ?gqN ?_ ?gqa ?gqb; (case gqF => k_asm); (case gqN => k_asm); (case gqa => rfl); (case gqb => rfl); k_whole; intro h' tk' F' N'; (try k_sweep))
  k_with "newTuple" => (k_dflt (first
    | (refine' tup_2 ?gqF ?gqN ?_; (case gqF => k_asm); (case gqN => k_asm); k_whole; intro t1' t2' D' h' tk' F' N' l1)
    | (refine' tup_3 ?gqF ?gqN ?_; (case gqF => k_asm); (case gqN => k_asm); k_whole; intro t1' t2' t3' D' h' tk' F' N' l1)
    | (refine' tup_any ?gqF ?gqN ?_ ?gqz; (case gqF => k_asm); (case gqN => k_asm); (case gqz => exact Nat.le_of_ble_eq_true rfl); k_whole; intro D' h' tk' F' N' l1)); (try k_lt l1); (try k_sweep))
  k_with "newList" => (k_dflt (first
    | (refine' list_4 ?gqF ?gqN ?_; (case gqF => k_asm); (case gqN => k_asm); k_whole; intro t1' t2' t3' t4' D' h' tk' F' N' l1)
    | (refine' list_1 ?gqF ?gqN ?_; (case gqF => k_asm); (case gqN => k_asm); k_whole; intro t1' D' h' tk' F' N' l1)
    | (refine' list_any ?gqF ?gqN ?_ ?gqz; (case gqF => k_asm); (case gqN => k_asm); (case gqz => exact Nat.le_of_ble_eq_true rfl); k_whole; intro D' h' tk' F' N' l1)); (try k_lt l1); (try k_sweep))
  k_with "exec Assign cons Call" => k_fold
  k_with "exec Assign cons Tuple" => k_fold
  k_with "exec If BoolOp cons nil" => k_fold
  k_with "exec If UnaryOp cons nil" => k_fold
  k_with "exec If Compare cons nil" => k_fold
  k_with "exec Assign cons BinOp" => k_fold
  k_with "exec Expr Call" => k_fold
  k_with "exec Assign cons Compare" => k_fold
  k_with "exec Assign cons Subscript" => k_fold
  k_with "exec If Name cons nil" => k_fold
  k_with "gx" => k_dflt (first
    | exact gv_int
    | (refine' gv_name ?gqF ?gqv ?gqa ?gqb ?gqc; (case gqF => k_asm); (case gqa => rfl); (case gqb => rfl); (case gqv => exact @rfl _ (some _)); (case gqc => decide))
    | (refine' gv_cell ?gqN ?gqc ?gqm ?gqd ?gqa ?gqb ?gqe; (case gqa => rfl); (case gqb => rfl); (case gqN => k_asm); (case gqc => rfl); (case gqm => k_mem); (case gqd => k_asm); (case gqe => decide))
    | (refine' gv_glob ?gqF ?gqX ?gqT ?gqe ?gqa ?gqb ?gqc; (case gqF => k_asm); (case gqX => k_asm); (case gqT => k_asm); (case gqa => rfl); (case gqb => rfl); (case gqe => k_is); (case gqc => decide))
    | (refine' gv_add ?gqg ?gqh; (case gqg => k_extra "gx"); (case gqh => k_extra "gx"))
    | (refine' gv_sub ?gqg ?gqh; (case gqg => k_extra "gx"); (case gqh => k_extra "gx"))
    | (refine' gv_attr ?gqg ?gqk1 ?gqk2 ?gqk3 ?gqk4 ?gqk5 ?gqk6 ?gqk7 ?gqk8 ?gqk9 ?gqe; (case gqg => k_extra "gx"); (case gqk1 => k_asm); (case gqk2 => k_asm); (case gqk3 => k_inst); (case gqk4 => k_is); (case gqk5 => k_is); (case gqk6 => k_is); (case gqk7 => k_is); (case gqk8 => k_get); (case gqk9 => k_handed); (case gqe => with_unfolding_all rfl)))
  k_with "gl" => k_dflt (first
    | exact gl_nil
    | (refine' gl_cons ?gqg ?gqh ?gqe; (case gqe => rfl); (case gqg => k_extra "gx"); (case gqh => k_extra "gl")))
  k_with "callWith ref" => (k_dflt (refine' callWith_gv ?gqX ?gqF ?gqk ?gqg ?_ ?gqe ?gqp; (case gqX => k_asm); (case gqF => k_asm); (case gqk => k_is); (case gqe => rfl); (case gqp => rfl); (case gqg => k_extra "gl"); k_whole); (try dsimp only [List.nil_append, List.cons_append]))
  k_with "eval Call Name cons nil" => k_dflt (refine' call_gv ?gqX ?gqF ?gqf ?gqk ?gqg ?_ ?gqc ?gqe ?gqp; (case gqX => k_asm); (case gqF => k_asm); (case gqc => rfl); (case gqe => rfl); (case gqp => rfl); (case gqf => k_extra "gx"); (case gqk => k_is); (case gqg => k_extra "gl"); k_whole)
  k_with "eval Name" => k_dflt (refine' nameX_L ?gqF ?gqv ?_ ?gqa ?gqb ?gqc; (case gqF => k_asm); (case gqa => rfl); (case gqb => rfl); (case gqv => exact @rfl _ (some _)); (case gqc => decide); k_whole)
  k_with "spliced" => (k_dflt (refine' spliced_gv ?gqg ?_; (case gqg => k_extra "gl"); k_whole); (try dsimp only [List.nil_append, List.cons_append]))
  k_with "eval BinOp" => k_dflt (refine' eval_gv ?gqg ?_; (case gqg => k_extra "gx"); k_whole)
  k_with "eval Attribute Name" => k_dflt (refine' eval_gv ?gqg ?_; (case gqg => k_extra "gx"); k_whole)
  k_with "cmp" => k_dflt (first
    | ((with_reducible show wpAny _ _ (isTrue (Expr.Compare _ [CmpOp.Lt] [_] _) _ _) _ _ _); refine' ts_lt ?gqg ?gqh ?_ ?gqm; (case gqm => with_unfolding_all rfl); (case gqg => k_extra "gx"); (case gqh => k_extra "gx"); k_whole)
    | ((with_reducible show wpAny _ _ (isTrue (Expr.Compare _ [CmpOp.LtE] [_] _) _ _) _ _ _); refine' ts_le ?gqg ?gqh ?_ ?gqm; (case gqm => with_unfolding_all rfl); (case gqg => k_extra "gx"); (case gqh => k_extra "gx"); k_whole)
    | ((with_reducible show wpAny _ _ (isTrue (Expr.Compare _ [CmpOp.Gt] [_] _) _ _) _ _ _); refine' ts_gt ?gqg ?gqh ?_ ?gqm; (case gqm => with_unfolding_all rfl); (case gqg => k_extra "gx"); (case gqh => k_extra "gx"); k_whole)
    | ((with_reducible show wpAny _ _ (isTrue (Expr.Compare _ [CmpOp.GtE] [_] _) _ _) _ _ _); refine' ts_ge ?gqg ?gqh ?_ ?gqm; (case gqm => with_unfolding_all rfl); (case gqg => k_extra "gx"); (case gqh => k_extra "gx"); k_whole)
    | ((with_reducible show wpAny _ _ (isTrue (Expr.Compare _ [CmpOp.Eq] [_] _) _ _) _ _ _); refine' ts_eq ?gqg ?gqh ?_ ?gqm; (case gqm => with_unfolding_all rfl); (case gqg => k_extra "gx"); (case gqh => k_extra "gx"); k_whole)
    | ((with_reducible show wpAny _ _ (isTrue (Expr.Compare _ [CmpOp.NotEq] [_] _) _ _) _ _ _); refine' ts_ne ?gqg ?gqh ?_ ?gqm; (case gqm => with_unfolding_all rfl); (case gqg => k_extra "gx"); (case gqh => k_extra "gx"); k_whole))
  k_with "isTrue Compare Name" => k_extra "cmp"
  k_with "isTrue Compare Constant" => k_extra "cmp"
  k_with "isTrue Compare BinOp" => k_extra "cmp"
  k_with "isTrue Compare Attribute" => k_extra "cmp"
  k_with "enter" => (refine' code_any ?k1 ?k2 ?k3 ?k4 ?k5 ?kA ?kF ?kK ?k6 ?k7 ?k8 ?k9 ?kB ?_ ?c2 ?c3 ?c4 ?c5; (case kA => exact rfl); (case kF => exact rfl); (case kK => first | exact rfl | assumption); (case k1 => k_asm); (case k2 => k_asm); (case k3 => k_asm); (case k4 => k_asm); (case k5 => k_asm); (case k6 => k_is); (case k7 => k_is); (case k8 => k_room); (case k9 => first | exact BindsTo.of_eq rfl | exact binds_K (by k_in) rfl (by k_is) rfl rfl rfl); (case c5 => decide); (case kB => exact locs rfl); (case c2 => exact rfl); (case c3 => exact rfl); (case c4 => exact rfl); k_whole; intro g' L' h' tk' FG' F' N' B' X' T'; (try dsimp only); (try k_lift B'); (try k_fold))
  k_with "clsnew" => k_dflt (refine' call_cls ?k1 ?k2 ?k3 ?k4 ?k5 ?k6 ?_; (case k1 => k_asm); (case k2 => k_asm); (case k3 => k_asm); (case k4 => k_is); (case k5 => k_is); (case k6 => k_is); k_whole; intro x' d' h' F' N' l1 l2; (try k_lt l1); (try k_lt2 l2); (try k_sweep); k_extra "enter")
  revert X; k_fill; intro X
  k_with "call ref" => k_extra "clsnew"
  k_steps
  all_goals (exact ret _ _ _ _ _ _ _ _ (by assumption) (by assumption) (by k_asm) (by k_asm))
end
end
section
open PySem PySem.W PySem.Calls PyProof.Rows
set_option maxRecDepth 100000
set_option linter.unusedVariables false
theorem claim_conv {w : World} {k : Nat} {f : Addr} {vs : List Value} {news : List (Addr × Obj)} {Ret : Value → List (Addr × Obj) → Prop}
    (h : ∀ (h₀ : Heap) (L : Addr) (h : Heap), News h₀ L h news → ∃ news1 Ret1, Claim w k f vs news1 Ret1 ∧ (∀ p ∈ news1, p ∈ news) ∧ ∀ r n1, Ret1 r n1 → ∃ n2, Ret r n2 ∧ ∀ p ∈ n2, p ∈ n1) : Claim w k f vs news Ret := by
  intro mean mg mb dp un gd cn cs a ccd cl outer A₀ base h₀ L m s Q E B F X N T hk hd hu ret
  obtain ⟨news1, Ret1, C, h1, h2⟩ := h h₀ L s.heap N
  refine C mean mg mb dp un gd cn cs a ccd cl outer A₀ base h₀ L m s Q E B F X (news_sub N h1) T hk hd hu ?_
  intro r n1 h' tk' hr F' N'
  obtain ⟨n2, hr2, hs⟩ := h2 r n1 hr
  exact ret r n2 h' tk' hr2 F' (news_sub N' hs)

theorem news_same {h₀ h : Heap} {L : Addr} {news : List (Addr × Obj)} (N : News h₀ L h news) {p q : Addr × Obj} (hp : p ∈ news) (hq : q ∈ news) (e : p.1 = q.1) : p = q := by
  have h1 := (N p hp).1
  have h2 := (N q hq).1
  rw [e, h2] at h1
  exact Prod.ext e (Option.some.inj h1).symm

theorem ro_only {h₀ h : Heap} {L : Addr} {news : List (Addr × Obj)} (N : News h₀ L h news) (ros : List (Addr × Obj)) (hro : ∀ p ∈ ros, p ∈ news) :
    ∃ rest, OwnOff rest (ros.map (·.1)) ∧ (∀ p ∈ ros ++ rest, p ∈ news) ∧ ∀ p ∈ news, p ∈ ros ++ rest := by
  refine ⟨news.filter fun p => decide (p.1 ∉ ros.map (·.1)), ?_, ?_, ?_⟩
  · intro p hp b hb e
    have h1 := (List.mem_filter.mp hp).2
    simp only [decide_eq_true_eq] at h1
    exact h1 (e ▸ hb)
  · intro p hp
    rcases List.mem_append.mp hp with hp | hp
    · exact hro p hp
    · exact (List.mem_filter.mp hp).1
  · intro p hp
    by_cases h1 : p.1 ∈ ros.map (·.1)
    · obtain ⟨q, hq, e⟩ := List.mem_map.mp h1
      rw [news_same N hp (hro q hq) e.symm]
      exact List.mem_append.mpr (.inl hq)
    · exact List.mem_append.mpr (.inr (List.mem_filter.mpr ⟨hp, by simpa using h1⟩))

theorem upd_ro {h₀ h : Heap} {L : Addr} {news : List (Addr × Obj)} {d : Addr} {o : Obj} {g : Obj → List (Addr × Obj)} (U : UpdF d o news g) (N : News h₀ L h news) (ros : List (Addr × Obj)) (hro : ∀ p ∈ ros, p ∈ news) (hne : ∀ p ∈ ros, p.1 ≠ d) :
    ∃ rest, OwnOff rest (ros.map (·.1) ++ [d]) ∧ (∀ p ∈ ros ++ (d, o) :: rest, p ∈ news) ∧ ∀ o', ∀ p ∈ g o', p ∈ ros ++ (d, o') :: rest := by
  obtain ⟨pre, post, rfl, hg, a, b⟩ := U.split
  refine ⟨(pre ++ post).filter fun p => decide (p.1 ∉ ros.map (·.1)), ?_, ?_, ?_⟩
  · intro p hp c hc
    have h1 := List.mem_filter.mp hp
    rcases List.mem_append.mp hc with hc | hc
    · intro e
      have h2 := h1.2
      simp only [decide_eq_true_eq] at h2
      exact h2 (e ▸ hc)
    · rw [List.mem_singleton.mp hc]
      exact (List.mem_append.mp h1.1).elim (a p) (b p)
  · intro p hp
    rcases List.mem_append.mp hp with hp | hp
    · exact hro p hp
    · rcases List.mem_cons.mp hp with rfl | hp
      · simp
      · have h1 := (List.mem_filter.mp hp).1
        rcases List.mem_append.mp h1 with h1 | h1
        · exact List.mem_append.mpr (.inl h1)
        · exact List.mem_append.mpr (.inr (.tail _ h1))
  · intro o' p hp
    rw [hg o'] at hp
    have key : p ∈ pre ++ post → p ∈ ros ++ (d, o') :: (pre ++ post).filter (fun p => decide (p.1 ∉ ros.map (·.1))) := by
      intro hp
      by_cases h1 : p.1 ∈ ros.map (·.1)
      · obtain ⟨q, hq, e⟩ := List.mem_map.mp h1
        have hp' : p ∈ pre ++ (d, o) :: post := (List.mem_append.mp hp).elim (fun z => List.mem_append.mpr (.inl z)) fun z => List.mem_append.mpr (.inr (.tail _ z))
        rw [news_same N hp' (hro q hq) e.symm]
        exact List.mem_append.mpr (.inl hq)
      · exact List.mem_append.mpr (.inr (.tail _ (List.mem_filter.mpr ⟨hp, by simpa using h1⟩)))
    rcases List.mem_append.mp hp with hp | hp
    · exact key (List.mem_append.mpr (.inl hp))
    · rcases List.mem_cons.mp hp with rfl | hp
      · exact List.mem_append.mpr (.inr (.head _))
      · exact key (List.mem_append.mpr (.inr hp))

noncomputable def takeRet (g : Obj → List (Addr × Obj)) (top : Int) (r : Value) (news' : List (Addr × Obj)) : Prop :=
  ∃ (d b m : Int) (t1 t2 t3 : Tok) (n : Nat), r = .int d t1 ∧ 0 ≤ d ∧ d < top ∧ 0 ≤ b ∧ 0 ≤ m ∧ m < 2147483647 ∧ news' = g (listOf #[.int b t2, .int m t3] n)
noncomputable def pickRet (g : Obj → List (Addr × Obj)) (ns : List Int) (r : Value) (news' : List (Addr × Obj)) : Prop :=
  ∃ (d : Nat) (b m : Int) (t1 t2 t3 : Tok) (n : Nat), r = .int (ns.getD d 0) t1 ∧ d < ns.length ∧ 0 ≤ b ∧ 0 ≤ m ∧ m < 2147483647 ∧ news' = g (listOf #[.int b t2, .int m t3] n)

theorem take_c {w : World} {sa : Addr} {b m top : Int} {t1 t2 t3 : Tok} {n : Nat} {news : List (Addr × Obj)} {g : Obj → List (Addr × Obj)} (U : UpdF sa (listOf #[.int b t2, .int m t3] n) news g)
    (hb : 0 ≤ b) (hm : 0 ≤ m) (hm' : m < 2147483647) (ht : 0 < top) (ht' : top < 2 ^ 20) : Claim w 2 187 [.ref sa, .int top t1] news (takeRet g top) := by
  refine claim_conv fun h₀ L h N => ?_
  obtain ⟨rest, h1, h2, h3⟩ := upd_ro U N [] (by simp) (by simp)
  refine ⟨_, _, take_ok w sa b m top t1 t2 t3 n rest h1 hb hm hm' ht ht', h2, ?_⟩
  rintro r n1 ⟨b', m', d, t1', t2', t3', n', rfl, k1, k2, k3, k4, k5, rfl⟩
  exact ⟨_, ⟨d, b', m', t1', t2', t3', n', rfl, k1, k2, k3, k4, k5, rfl⟩, h3 _⟩

theorem one_c {w : World} {sa ta : Addr} {b m : Int} {t2 t3 : Tok} {n n2 : Nat} {vs : List Value} {ns : List Int} {news : List (Addr × Obj)} {g : Obj → List (Addr × Obj)} (U : UpdF sa (listOf #[.int b t2, .int m t3] n) news g)
    (hta : (ta, listOf vs.toArray n2) ∈ news) (hne : @Ne Nat ta sa) (hi : IntsAre vs ns)
    (hb : 0 ≤ b) (hm : 0 ≤ m) (hm' : m < 2147483647) (hl : 0 < ns.length) (hl' : ns.length < 1000) : Claim w 3 194 [.ref sa, .ref ta] news (pickRet g ns) := by
  refine claim_conv fun h₀ L h N => ?_
  obtain ⟨rest, h1, h2, h3⟩ := upd_ro U N [(ta, listOf vs.toArray n2)] (by simpa using hta) (by simpa using hne)
  refine ⟨_, _, one_ok w sa ta b m t2 t3 n n2 vs ns rest ?_ (Ne.symm hne) hb hm hm' hi hl hl', ?_, ?_⟩
  · exact fun p hp c hc => h1 p hp c (mem_mid [ta] [] hc)
  · exact fun p hp => h2 p (mem_mid [_] rest hp)
  · rintro r n1 ⟨b', m', d, t1', t2', t3', n', rfl, k1, k2, k3, k4, k5, rfl⟩
    exact ⟨_, ⟨d.toNat, b', m', t1', t2', t3', n', rfl, by omega, k3, k4, k5, rfl⟩, fun p hp => mid_mem [_] rest (h3 _ p hp)⟩

theorem told_c {w : World} {x dx : Addr} {k1 k2 t1 t2 t3 : Tok} {sh p level : Int} {news : List (Addr × Obj)} {g : Obj → List (Addr × Obj)} (U : UpdF dx (avgObj w k1 k2 sh t1 p t2) news g)
    (hx : (x, instObj 85 dx) ∈ news) (hne : @Ne Nat x dx) (h0 : 0 ≤ sh) (h1 : sh < 4) (h2 : 0 ≤ p) (h3 : p < 1000000) (h4 : 0 ≤ level) (h5 : level < 1000000) :
    Claim w 2 82 [.ref x, .int level t3] news (fun r news' => ∃ (q v : Int) (t t2 : Tok), q = avgStep sh p level ∧ v = avgVal sh q ∧ r = .int v t ∧ news' = g (avgObj w k1 k2 sh t1 q t2)) := by
  refine claim_conv fun h₀ L h N => ?_
  obtain ⟨rest, k1', k2', k3'⟩ := upd_ro U N [(x, instObj 85 dx)] (by simpa using hx) (by simpa using hne)
  refine ⟨_, _, told_ok w x dx k1 k2 t1 t2 t3 sh p level rest k1' hne h0 h1 h2 h3 h4 h5, k2', ?_⟩
  rintro r n1 ⟨t, t2', rfl, rfl⟩
  exact ⟨_, ⟨_, _, t, t2', rfl, rfl, rfl, rfl⟩, k3' _⟩

theorem share_c {w : World} {c dc : Addr} {k1 k2 k3 t1 t2 t3 t4 : Tok} {low high most level : Int} {news : List (Addr × Obj)}
    (hc : (c, instObj 120 dc) ∈ news) (hdc : (dc, curveObj w k1 k2 k3 low t1 high t2 most t3) ∈ news) (hne : @Ne Nat c dc)
    (h0 : 0 ≤ low) (h1 : low < high) (h2 : high < 1000) (h3 : 0 ≤ most) (h4 : most < 1000) (h5 : 0 ≤ level) (h6 : level < 100000) :
    Claim w 2 110 [.ref c, .int level t4] news (fun r news' => ∃ (v : Int) (t : Tok), v = shareF low high most level ∧ r = .int v t ∧ news' = news) := by
  refine claim_conv fun h₀ L h N => ?_
  obtain ⟨rest, k1', k2', k3'⟩ := ro_only N [(c, instObj 120 dc), (dc, curveObj w k1 k2 k3 low t1 high t2 most t3)] (by intro p hp; simp only [List.mem_cons, List.not_mem_nil, or_false] at hp; rcases hp with rfl | rfl <;> assumption)
  refine ⟨_, _, share_ok w c dc k1 k2 k3 t1 t2 t3 t4 low high most level rest k1' hne h0 h1 h2 h3 h4 h5 h6, k2', ?_⟩
  rintro r n1 ⟨t, rfl, rfl⟩
  exact ⟨_, ⟨_, t, rfl, rfl, rfl⟩, k3'⟩

theorem lshare_c {w : World} {low high most level : Int} {t1 t2 t3 t4 : Tok} {news : List (Addr × Obj)}
    (h0 : 0 ≤ low) (h1 : low < high) (h2 : high < 1000) (h3 : 0 ≤ most) (h4 : most < 1000) (h5 : 0 ≤ level) (h6 : level < 100000) :
    Claim w 2 199 [.int low t1, .int high t2, .int most t3, .int level t4] news (fun r news' => ∃ (v : Int) (t : Tok), v = shareF low high most level ∧ r = .int v t ∧ news' = news) := by
  refine claim_conv fun h₀ L h N => ?_
  refine ⟨_, _, lshare_ok w low high most level t1 t2 t3 t4 news h0 h1 h2 h3 h4 h5 h6, fun _ hp => hp, ?_⟩
  rintro r n1 ⟨t, rfl, rfl⟩
  exact ⟨_, ⟨_, t, rfl, rfl, rfl⟩, fun _ hp => hp⟩

theorem drops_c {w : World} {c dc : Addr} {k1 k2 k3 t1 t2 t3 t4 t5 : Tok} {low high most level told : Int} {news : List (Addr × Obj)}
    (hc : (c, instObj 120 dc) ∈ news) (hdc : (dc, curveObj w k1 k2 k3 low t1 high t2 most t3) ∈ news) (hne : @Ne Nat c dc)
    (h0 : 0 ≤ low) (h1 : low < high) (h2 : high < 1000) (h3 : 0 ≤ most) (h4 : most < 1000) (h5 : 0 ≤ level) (h6 : level < 100000) :
    Claim w 3 117 [.ref c, .int level t4, .int told t5] news (fun r news' => ∃ v : Int, v = shareF low high most level ∧ r = .bool (decide (told < v)) ∧ news' = news) := by
  refine claim_conv fun h₀ L h N => ?_
  obtain ⟨rest, k1', k2', k3'⟩ := ro_only N [(c, instObj 120 dc), (dc, curveObj w k1 k2 k3 low t1 high t2 most t3)] (by intro p hp; simp only [List.mem_cons, List.not_mem_nil, or_false] at hp; rcases hp with rfl | rfl <;> assumption)
  refine ⟨_, _, drops_ok w c dc k1 k2 k3 t1 t2 t3 t4 t5 low high most level told rest k1' hne h0 h1 h2 h3 h4 h5 h6, k2', ?_⟩
  rintro r n1 ⟨rfl, rfl⟩
  exact ⟨_, ⟨_, rfl, rfl, rfl⟩, k3'⟩
theorem lshare_cv {w : World} {low high most level v : Int} {t1 t2 t3 t4 : Tok} {news : List (Addr × Obj)} (hv : v = shareF low high most level)
    (h0 : 0 ≤ low) (h1 : low < high) (h2 : high < 1000) (h3 : 0 ≤ most) (h4 : most < 1000) (h5 : 0 ≤ level) (h6 : level < 100000) :
    Claim w 2 199 [.int low t1, .int high t2, .int most t3, .int level t4] news (fun r news' => ∃ t : Tok, r = .int v t ∧ news' = news) := by
  subst hv
  exact lshare_ok w low high most level t1 t2 t3 t4 news h0 h1 h2 h3 h4 h5 h6

theorem drops_cv {w : World} {c dc : Addr} {k1 k2 k3 t1 t2 t3 t4 t5 : Tok} {low high most level told v : Int} {news : List (Addr × Obj)} (hv : v = shareF low high most level)
    (hc : (c, instObj 120 dc) ∈ news) (hdc : (dc, curveObj w k1 k2 k3 low t1 high t2 most t3) ∈ news) (hne : @Ne Nat c dc)
    (h0 : 0 ≤ low) (h1 : low < high) (h2 : high < 1000) (h3 : 0 ≤ most) (h4 : most < 1000) (h5 : 0 ≤ level) (h6 : level < 100000) :
    Claim w 3 117 [.ref c, .int level t4, .int told t5] news (fun r news' => r = .bool (decide (told < v)) ∧ news' = news) := by
  refine claim_conv fun h₀ L h N => ?_
  refine ⟨_, _, drops_c hc hdc hne h0 h1 h2 h3 h4 h5 h6, fun _ hp => hp, ?_⟩
  rintro r n1 ⟨q, rfl, rfl, rfl⟩
  exact ⟨_, ⟨by rw [hv], rfl⟩, fun _ hp => hp⟩
end
section
open PySem PySem.W PySem.Calls PyProof.Rows
set_option maxRecDepth 100000
set_option linter.unusedVariables false
theorem big_nonneg (x : Int) (P : Prop) [Decidable P] : 0 ≤ (if -1 - x > x then -1 - x else x) * (if decide P = true then 1 else 0) := by
  refine Int.mul_nonneg ?_ ?_
  · split <;> omega
  · split <;> decide

set_option maxHeartbeats 8000000 in
theorem pool_use {w : World} {l : Addr} {vs : List Value} {ns : List Int} {k : Int} {t1 : Tok} {news : List (Addr × Obj)}
    {mean : ExcName → Option Value} {mg mb : Str → Option Value} {dp un : Nat} {gd : Option (List Code)} {cn : Str} {cs : Scope} {a : Addr} {ccd : Value} {cl : List (Str × Addr)} {outer : List Env} {A₀ : Around} {base h₀ : Heap} {L : Addr} {m : Str → Option Value} {s : Shared} {Q E : Value → Shared → Prop}
    (B : Below A₀ base outer h₀) (F : Fr h₀ L s.heap m) (X : (hd.heap_39 w.params).In h₀) (N : News h₀ L s.heap news) (T : Top hd.view_39 (looseW hd.view_39 [Str.ofString "SettingError"]) mean mg mb h₀) (hk : cs.kind = .function)
    (hl : base.IsList l vs.toArray) (hi : IntsAre vs ns) (hlen : ns.length < 2 ^ 62) (hlay : PyData.layable0 (.list (ns.map .int)) = true) (h0 : 0 ≤ k) (h1 : k < 10) 
    (hd : dp + 2 < recursionLimit) (hu : un + 16 < cLine)
    (ret : ∀ (sa : Addr) (b m' : Int) (t2 t3 : Tok) (n : Nat) h' tk', 0 ≤ b → 0 ≤ m' → m' < 2147483647 → (∀ p ∈ news, p.1 < sa) → Fr h₀ L h' m → News h₀ L h' ((sa, listOf #[.int b t2, .int m' t3] n) :: news) → Q (.ref sa) { s with heap := h', toks := tk' }) :
    wpAny (model PySem.Challenge.rw_pc0359_01.row.prog w) (ktrTop dp un gd cn cs L a ccd cl outer) (call (.ref 180) [.ref l, .int k t1]) Q E s := by
  k_with_none
  w_top off
  k_with "om" => (first | k_extra "proj" | lia | omega (config := {}))
  k_with "pj" => (first | assumption | exact And.left (by assumption) | exact And.left (And.right (by assumption)) | exact And.left (And.right (And.right (by assumption))) | exact And.left (And.right (And.right (And.right (by assumption)))) | exact And.left (And.right (And.right (And.right (And.right (by assumption))))) | exact And.left (And.right (And.right (And.right (And.right (And.right (by assumption)))))) | exact And.left (And.right (And.right (And.right (And.right (And.right (And.right (by assumption))))))) | exact And.left (And.right (And.right (And.right (And.right (And.right (And.right (And.right (by assumption)))))))) | exact And.left (And.right (And.right (And.right (And.right (And.right (And.right (And.right (And.right (by assumption))))))))) | exact And.left (And.right (And.right (And.right (And.right (And.right (And.right (And.right (And.right (And.right (by assumption)))))))))) | exact And.left (And.right (And.right (And.right (And.right (And.right (And.right (And.right (And.right (And.right (And.right (by assumption))))))))))) | exact And.left (And.right (And.right (And.right (And.right (And.right (And.right (And.right (And.right (And.right (And.right (And.right (by assumption)))))))))))) | exact And.left (And.right (And.right (And.right (And.right (And.right (And.right (And.right (And.right (And.right (And.right (And.right (And.right (by assumption))))))))))))) | exact And.left (And.right (And.right (And.right (And.right (And.right (And.right (And.right (And.right (And.right (And.right (And.right (And.right (And.right (by assumption)))))))))))))) | exact And.right (by assumption) | exact And.right (And.right (by assumption)) | exact And.right (And.right (And.right (by assumption))) | exact And.right (And.right (And.right (And.right (by assumption)))) | exact And.right (And.right (And.right (And.right (And.right (by assumption))))) | exact And.right (And.right (And.right (And.right (And.right (And.right (by assumption)))))) | exact And.right (And.right (And.right (And.right (And.right (And.right (And.right (by assumption))))))) | exact And.right (And.right (And.right (And.right (And.right (And.right (And.right (And.right (by assumption)))))))) | exact And.right (And.right (And.right (And.right (And.right (And.right (And.right (And.right (And.right (by assumption))))))))) | exact And.right (And.right (And.right (And.right (And.right (And.right (And.right (And.right (And.right (And.right (by assumption)))))))))) | exact And.right (And.right (And.right (And.right (And.right (And.right (And.right (And.right (And.right (And.right (And.right (by assumption))))))))))) | exact And.right (And.right (And.right (And.right (And.right (And.right (And.right (And.right (And.right (And.right (And.right (And.right (by assumption)))))))))))) | exact And.right (And.right (And.right (And.right (And.right (And.right (And.right (And.right (And.right (And.right (And.right (And.right (And.right (by assumption))))))))))))))
  k_with "proj" => (first
    | (with_reducible assumption)
    | ((with_reducible show @Ne Nat _ _); (with_reducible first
      | (refine Nat.ne_of_gt ?_; k_extra "pj")
      | (refine Nat.ne_of_lt ?_; k_extra "pj")
      | (refine Nat.ne_of_gt (Nat.lt_trans ?_ (by assumption)); k_extra "pj")
      | (refine Nat.ne_of_lt (Nat.lt_trans ?_ (by assumption)); k_extra "pj")
      | k_extra "pj"
      | (refine Ne.symm ?_; k_extra "pj")
      | (first | exact And.left (And.left (by assumption)) | exact And.left (And.right (And.left (by assumption))) | exact And.right (And.right (And.left (by assumption))) | exact And.left (And.left (And.right (by assumption))) | exact And.left (And.right (And.left (And.right (by assumption)))) | exact And.right (And.right (And.left (And.right (by assumption)))) | exact And.left (And.left (And.right (And.right (by assumption)))) | exact And.left (And.right (And.left (And.right (And.right (by assumption))))) | exact And.right (And.right (And.left (And.right (And.right (by assumption))))) | exact And.left (And.left (And.right (And.right (And.right (by assumption))))) | exact And.left (And.right (And.left (And.right (And.right (And.right (by assumption)))))) | exact And.right (And.right (And.left (And.right (And.right (And.right (by assumption)))))) | exact And.left (And.left (And.right (And.right (And.right (And.right (by assumption)))))) | exact And.left (And.right (And.left (And.right (And.right (And.right (And.right (by assumption))))))) | exact And.right (And.right (And.left (And.right (And.right (And.right (And.right (by assumption))))))) | exact And.left (And.left (And.right (And.right (And.right (And.right (And.right (by assumption))))))) | exact And.left (And.right (And.left (And.right (And.right (And.right (And.right (And.right (by assumption)))))))) | exact And.right (And.right (And.left (And.right (And.right (And.right (And.right (And.right (by assumption)))))))))
      | (refine Ne.symm ?_; (first | exact And.left (And.left (by assumption)) | exact And.left (And.right (And.left (by assumption))) | exact And.right (And.right (And.left (by assumption))) | exact And.left (And.left (And.right (by assumption))) | exact And.left (And.right (And.left (And.right (by assumption)))) | exact And.right (And.right (And.left (And.right (by assumption)))) | exact And.left (And.left (And.right (And.right (by assumption)))) | exact And.left (And.right (And.left (And.right (And.right (by assumption))))) | exact And.right (And.right (And.left (And.right (And.right (by assumption))))) | exact And.left (And.left (And.right (And.right (And.right (by assumption))))) | exact And.left (And.right (And.left (And.right (And.right (And.right (by assumption)))))) | exact And.right (And.right (And.left (And.right (And.right (And.right (by assumption)))))) | exact And.left (And.left (And.right (And.right (And.right (And.right (by assumption)))))) | exact And.left (And.right (And.left (And.right (And.right (And.right (And.right (by assumption))))))) | exact And.right (And.right (And.left (And.right (And.right (And.right (And.right (by assumption))))))) | exact And.left (And.left (And.right (And.right (And.right (And.right (And.right (by assumption))))))) | exact And.left (And.right (And.left (And.right (And.right (And.right (And.right (And.right (by assumption)))))))) | exact And.right (And.right (And.left (And.right (And.right (And.right (And.right (And.right (by assumption))))))))))))
    | ((with_reducible show @LT.lt Nat _ _ _); (with_reducible k_extra "pj"))
    | ((with_reducible show @LE.le Nat _ _ _); (with_reducible first | exact Nat.le_refl _ | (refine Nat.le_of_lt ?_; k_extra "pj")))
    | ((with_reducible refine And.intro ?_ ?_) <;> omega)
    | (with_reducible (first | assumption | exact And.left (by assumption) | exact And.left (And.right (by assumption)) | exact And.left (And.right (And.right (by assumption))) | exact And.right (by assumption) | exact And.right (And.right (by assumption)))))
  k_with "updF" => k_dflt (rename Ap _ _ => hAp9; first | exact upd0 hAp9 | exact upd1 hAp9 | exact upd2 hAp9 | exact upd3 hAp9 | exact upd4 hAp9 | exact upd5 hAp9 | exact upd6 hAp9 | exact upd7 hAp9 | exact upd8 hAp9 | exact upd9 hAp9 | exact upd10 hAp9 | exact upd11 hAp9 | exact upd12 hAp9 | exact upd13 hAp9 | exact upd14 hAp9 | exact upd15 hAp9)
  k_with "upd" => k_dflt (rename Ap _ _ => hAp9; first | exact upe0 hAp9 | exact upe1 hAp9 | exact upe2 hAp9 | exact upe3 hAp9 | exact upe4 hAp9 | exact upe5 hAp9 | exact upe6 hAp9 | exact upe7 hAp9 | exact upe8 hAp9 | exact upe9 hAp9 | exact upe10 hAp9 | exact upe11 hAp9 | exact upe12 hAp9 | exact upe13 hAp9 | exact upe14 hAp9 | exact upe15 hAp9)
  k_with "lt" => ((rename (∀ p ∈ _, _ < _) => hL9); (try (rename Ap _ _ => hAp9; have hRaw := hL9; have hAp := Ap.push hAp9 hL9 rfl)); replace hL9 := allLt_of hL9; dsimp only [AllLt] at hL9)
  k_with "lt2" => ((with_reducible rename @LT.lt Nat _ _ _ => hL8); replace hL8 := ltN hL8; (try (rename Ap _ _ => hAp9; rename (∀ p ∈ _, _ < _) => hRaw9; have hAp := Ap.push2 hAp9 hRaw9 rfl hL8)))
  k_with "all" => (first | exact allLt_ne (by assumption) (by omega) | exact lt_neG (by assumption) (by omega))
  k_with "allmem" => (first | (with_reducible exact List.forall_mem_nil _) | ((with_reducible refine List.forall_mem_cons.mpr (And.intro ?_ ?_)); (focus k_mem); walk_at "allmem") | (intro p hp; (repeat (first | exact hp | apply List.mem_cons_of_mem)); done))
  k_with "storeName int" => k_dflt (refine' store_int ?gqF ?gqN ?_ ?gqa ?gqb; (case gqF => k_asm); (case gqN => k_asm); (case gqa => rfl); (case gqb => rfl); k_whole; intro t' h' tk' F' N'; (try k_sweep))
  k_with "storeName" => k_dflt (refine' store_any ?gqF ?gqN ?_ ?gqa ?gqb; (case gqF => k_asm); (case gqN => k_asm); (case gqa => rfl); (case gqb => rfl); k_whole; intro h' tk' F' N'; (try k_sweep))
  k_with "newTuple" => (k_dflt (first
    | (refine' tup_2 ?gqF ?gqN ?_; (case gqF => k_asm); (case gqN => k_asm); k_whole; intro t1' t2' D' h' tk' F' N' l1)
    | (refine' tup_3 ?gqF ?gqN ?_; (case gqF => k_asm); (case gqN => k_asm); k_whole; intro t1' t2' t3' D' h' tk' F' N' l1)
    | (refine' tup_any ?gqF ?gqN ?_ ?gqz; (case gqF => k_asm); (case gqN => k_asm); (case gqz => exact Nat.le_of_ble_eq_true rfl); k_whole; intro D' h' tk' F' N' l1)); (try k_lt l1); (try k_sweep))
  k_with "newList" => (k_dflt (first
    | (refine' list_4 ?gqF ?gqN ?_; (case gqF => k_asm); (case gqN => k_asm); k_whole; intro t1' t2' t3' t4' D' h' tk' F' N' l1)
    | (refine' list_1 ?gqF ?gqN ?_; (case gqF => k_asm); (case gqN => k_asm); k_whole; intro t1' D' h' tk' F' N' l1)
    | (refine' list_any ?gqF ?gqN ?_ ?gqz; (case gqF => k_asm); (case gqN => k_asm); (case gqz => exact Nat.le_of_ble_eq_true rfl); k_whole; intro D' h' tk' F' N' l1)); (try k_lt l1); (try k_sweep))
  k_with "exec Assign cons Call" => k_fold
  k_with "exec Assign cons Tuple" => k_fold
  k_with "exec If BoolOp cons nil" => k_fold
  k_with "exec If UnaryOp cons nil" => k_fold
  k_with "exec If Compare cons nil" => k_fold
  k_with "exec Assign cons BinOp" => k_fold
  k_with "exec Expr Call" => k_fold
  k_with "exec Assign cons Compare" => k_fold
  k_with "exec Assign cons Subscript" => k_fold
  k_with "exec If Name cons nil" => k_fold
  k_with "gx" => k_dflt (first
    | exact gv_int
    | (refine' gv_name ?gqF ?gqv ?gqa ?gqb ?gqc; (case gqF => k_asm); (case gqa => rfl); (case gqb => rfl); (case gqv => exact @rfl _ (some _)); (case gqc => decide))
    | (refine' gv_cell ?gqN ?gqc ?gqm ?gqd ?gqa ?gqb ?gqe; (case gqa => rfl); (case gqb => rfl); (case gqN => k_asm); (case gqc => rfl); (case gqm => k_mem); (case gqd => k_asm); (case gqe => decide))
    | (refine' gv_glob ?gqF ?gqX ?gqT ?gqe ?gqa ?gqb ?gqc; (case gqF => k_asm); (case gqX => k_asm); (case gqT => k_asm); (case gqa => rfl); (case gqb => rfl); (case gqe => k_is); (case gqc => decide))
    | (refine' gv_add ?gqg ?gqh; (case gqg => k_extra "gx"); (case gqh => k_extra "gx"))
    | (refine' gv_sub ?gqg ?gqh; (case gqg => k_extra "gx"); (case gqh => k_extra "gx"))
    | (refine' gv_attr ?gqg ?gqk1 ?gqk2 ?gqk3 ?gqk4 ?gqk5 ?gqk6 ?gqk7 ?gqk8 ?gqk9 ?gqe; (case gqg => k_extra "gx"); (case gqk1 => k_asm); (case gqk2 => k_asm); (case gqk3 => k_inst); (case gqk4 => k_is); (case gqk5 => k_is); (case gqk6 => k_is); (case gqk7 => k_is); (case gqk8 => k_get); (case gqk9 => k_handed); (case gqe => with_unfolding_all rfl)))
  k_with "gl" => k_dflt (first
    | exact gl_nil
    | (refine' gl_cons ?gqg ?gqh ?gqe; (case gqe => rfl); (case gqg => k_extra "gx"); (case gqh => k_extra "gl")))
  k_with "callWith ref" => (k_dflt (refine' callWith_gv ?gqX ?gqF ?gqk ?gqg ?_ ?gqe ?gqp; (case gqX => k_asm); (case gqF => k_asm); (case gqk => k_is); (case gqe => rfl); (case gqp => rfl); (case gqg => k_extra "gl"); k_whole); (try dsimp only [List.nil_append, List.cons_append]))
  k_with "eval Call Name cons nil" => k_dflt (refine' call_gv ?gqX ?gqF ?gqf ?gqk ?gqg ?_ ?gqc ?gqe ?gqp; (case gqX => k_asm); (case gqF => k_asm); (case gqc => rfl); (case gqe => rfl); (case gqp => rfl); (case gqf => k_extra "gx"); (case gqk => k_is); (case gqg => k_extra "gl"); k_whole)
  k_with "eval Name" => k_dflt (refine' nameX_L ?gqF ?gqv ?_ ?gqa ?gqb ?gqc; (case gqF => k_asm); (case gqa => rfl); (case gqb => rfl); (case gqv => exact @rfl _ (some _)); (case gqc => decide); k_whole)
  k_with "spliced" => (k_dflt (refine' spliced_gv ?gqg ?_; (case gqg => k_extra "gl"); k_whole); (try dsimp only [List.nil_append, List.cons_append]))
  k_with "eval BinOp" => k_dflt (refine' eval_gv ?gqg ?_; (case gqg => k_extra "gx"); k_whole)
  k_with "eval Attribute Name" => k_dflt (refine' eval_gv ?gqg ?_; (case gqg => k_extra "gx"); k_whole)
  k_with "cmp" => k_dflt (first
    | ((with_reducible show wpAny _ _ (isTrue (Expr.Compare _ [CmpOp.Lt] [_] _) _ _) _ _ _); refine' ts_lt ?gqg ?gqh ?_ ?gqm; (case gqm => with_unfolding_all rfl); (case gqg => k_extra "gx"); (case gqh => k_extra "gx"); k_whole)
    | ((with_reducible show wpAny _ _ (isTrue (Expr.Compare _ [CmpOp.LtE] [_] _) _ _) _ _ _); refine' ts_le ?gqg ?gqh ?_ ?gqm; (case gqm => with_unfolding_all rfl); (case gqg => k_extra "gx"); (case gqh => k_extra "gx"); k_whole)
    | ((with_reducible show wpAny _ _ (isTrue (Expr.Compare _ [CmpOp.Gt] [_] _) _ _) _ _ _); refine' ts_gt ?gqg ?gqh ?_ ?gqm; (case gqm => with_unfolding_all rfl); (case gqg => k_extra "gx"); (case gqh => k_extra "gx"); k_whole)
    | ((with_reducible show wpAny _ _ (isTrue (Expr.Compare _ [CmpOp.GtE] [_] _) _ _) _ _ _); refine' ts_ge ?gqg ?gqh ?_ ?gqm; (case gqm => with_unfolding_all rfl); (case gqg => k_extra "gx"); (case gqh => k_extra "gx"); k_whole)
    | ((with_reducible show wpAny _ _ (isTrue (Expr.Compare _ [CmpOp.Eq] [_] _) _ _) _ _ _); refine' ts_eq ?gqg ?gqh ?_ ?gqm; (case gqm => with_unfolding_all rfl); (case gqg => k_extra "gx"); (case gqh => k_extra "gx"); k_whole)
    | ((with_reducible show wpAny _ _ (isTrue (Expr.Compare _ [CmpOp.NotEq] [_] _) _ _) _ _ _); refine' ts_ne ?gqg ?gqh ?_ ?gqm; (case gqm => with_unfolding_all rfl); (case gqg => k_extra "gx"); (case gqh => k_extra "gx"); k_whole))
  k_with "isTrue Compare Name" => k_extra "cmp"
  k_with "isTrue Compare Constant" => k_extra "cmp"
  k_with "isTrue Compare BinOp" => k_extra "cmp"
  k_with "isTrue Compare Attribute" => k_extra "cmp"
  k_with "enter" => (refine' code_any ?k1 ?k2 ?k3 ?k4 ?k5 ?kA ?kF ?kK ?k6 ?k7 ?k8 ?k9 ?kB ?_ ?c2 ?c3 ?c4 ?c5; (case kA => exact rfl); (case kF => exact rfl); (case kK => first | exact rfl | assumption); (case k1 => k_asm); (case k2 => k_asm); (case k3 => k_asm); (case k4 => k_asm); (case k5 => k_asm); (case k6 => k_is); (case k7 => k_is); (case k8 => k_room); (case k9 => first | exact BindsTo.of_eq rfl | exact binds_K (by k_in) rfl (by k_is) rfl rfl rfl); (case c5 => decide); (case kB => exact locs rfl); (case c2 => exact rfl); (case c3 => exact rfl); (case c4 => exact rfl); k_whole; intro g' L' h' tk' FG' F' N' B' X' T'; (try dsimp only); (try k_lift B'); (try k_fold))
  k_with "clsnew" => k_dflt (refine' call_cls ?k1 ?k2 ?k3 ?k4 ?k5 ?k6 ?_; (case k1 => k_asm); (case k2 => k_asm); (case k3 => k_asm); (case k4 => k_is); (case k5 => k_is); (case k6 => k_is); k_whole; intro x' d' h' F' N' l1 l2; (try k_lt l1); (try k_lt2 l2); (try k_sweep); k_extra "enter")
  revert X; k_fill; intro X
  refine wpAny_call ?_
  k_dflt (k_extra "enter")
  k_with "exec If Compare cons nil" => (k_dflt (refine' st_join ?sjF ?sjN ?sj1 ?sj2; (case sjF => k_asm); (case sjN => k_asm); (case sj1 => (refine wpAny_If ?_; k_steps; all_goals (exact ⟨rfl, .mk _ _ _ _ (by first | k_asm | exact fr_twice (by k_asm)) (by k_asm)⟩))); k_whole); intro v9 t9 h9 tk9 F9 N9; (try k_sweep))
  k_steps
  all_goals exact ret _ _ _ _ _ _ _ _ (big_nonneg _ _) (fmod_lo _ (by decide)) (fmod_hi _ (by decide)) (by assumption) (by k_asm) (by k_asm)
end
section
open PySem PySem.W PySem.Calls PyProof.Rows
set_option maxRecDepth 100000
set_option linter.unusedVariables false
/-! the contracts in continuation form: no case split at a call -/
theorem share_cv {w : World} {c dc : Addr} {k1 k2 k3 t1 t2 t3 t4 : Tok} {low high most level v : Int} {news : List (Addr × Obj)} (hv : shareF low high most level = v)
    (hc : (c, instObj 120 dc) ∈ news) (hdc : (dc, curveObj w k1 k2 k3 low t1 high t2 most t3) ∈ news) (hne : @Ne Nat c dc)
    (h0 : 0 ≤ low) (h1 : low < high) (h2 : high < 1000) (h3 : 0 ≤ most) (h4 : most < 1000) (h5 : 0 ≤ level) (h6 : level < 100000) :
    Claim w 2 110 [.ref c, .int level t4] news (fun r news' => ∃ t : Tok, r = .int v t ∧ news' = news) := by
  refine claim_conv fun h₀ L h N => ?_
  refine ⟨_, _, share_c hc hdc hne h0 h1 h2 h3 h4 h5 h6, fun _ hp => hp, ?_⟩
  rintro r n1 ⟨q, t, hq, rfl, rfl⟩
  subst hq
  exact ⟨_, ⟨t, by rw [hv], rfl⟩, fun _ hp => hp⟩
section
variable {w : World} {mean : ExcName → Option Value} {mg mb : Str → Option Value} {dp un : Nat} {gd : Option (List Code)} {cn : Str} {cs : Scope} {a : Addr} {ccd : Value} {cl : List (Str × Addr)} {outer : List Env} {A₀ : Around} {base h₀ : Heap} {L : Addr} {m₀ : Str → Option Value} {s : Shared} {Q E : Value → Shared → Prop}
  {news : List (Addr × Obj)} {g : Obj → List (Addr × Obj)}

/-- a call whose value and ledger are told outright -/
theorem use_v {k : Nat} {f : Addr} {vs : List Value} {v : Value} {n0 : List (Addr × Obj)} (C : Claim w k f vs news (fun r n => r = v ∧ n = n0))
    (B : Below A₀ base outer h₀) (F : Fr h₀ L s.heap m₀) (X : (hd.heap_39 w.params).In h₀) (N : News h₀ L s.heap news) (T : Top hd.view_39 (looseW hd.view_39 [Str.ofString "SettingError"]) mean mg mb h₀) (hk : cs.kind = .function)
    (hd : dp + k < recursionLimit) (hu : un + 8 * k < cLine)
    (ret : ∀ h' tk', Fr h₀ L h' m₀ → News h₀ L h' n0 → Q v { s with heap := h', toks := tk' }) :
    wpAny (model PySem.Challenge.rw_pc0359_01.row.prog w) (ktrTop dp un gd cn cs L a ccd cl outer) (call (.ref f) vs) Q E s :=
  claim_use C B F X N T hk hd hu fun r n h' tk' hr F' N' => by
    obtain ⟨rfl, rfl⟩ := hr
    exact ret h' tk' F' N'

/-- a call that gives an int back and leaves the ledger -/
theorem use_i {k : Nat} {f : Addr} {vs : List Value} {e : Int} (C : Claim w k f vs news (fun r n => ∃ (v : Int) (t : Tok), v = e ∧ r = .int v t ∧ n = news))
    (B : Below A₀ base outer h₀) (F : Fr h₀ L s.heap m₀) (X : (hd.heap_39 w.params).In h₀) (N : News h₀ L s.heap news) (T : Top hd.view_39 (looseW hd.view_39 [Str.ofString "SettingError"]) mean mg mb h₀) (hk : cs.kind = .function)
    (hd : dp + k < recursionLimit) (hu : un + 8 * k < cLine)
    (ret : ∀ (v : Int) (t : Tok) h' tk', v = e → Fr h₀ L h' m₀ → News h₀ L h' news → Q (.int v t) { s with heap := h', toks := tk' }) :
    wpAny (model PySem.Challenge.rw_pc0359_01.row.prog w) (ktrTop dp un gd cn cs L a ccd cl outer) (call (.ref f) vs) Q E s :=
  claim_use C B F X N T hk hd hu fun r n h' tk' hr F' N' => by
    obtain ⟨v, t, hv, rfl, rfl⟩ := hr
    exact ret v t h' tk' hv F' N'

/-- a call whose int is known by a letter -/
theorem use_iv {k : Nat} {f : Addr} {vs : List Value} {v : Int} (C : Claim w k f vs news (fun r n => ∃ t : Tok, r = .int v t ∧ n = news))
    (B : Below A₀ base outer h₀) (F : Fr h₀ L s.heap m₀) (X : (hd.heap_39 w.params).In h₀) (N : News h₀ L s.heap news) (T : Top hd.view_39 (looseW hd.view_39 [Str.ofString "SettingError"]) mean mg mb h₀) (hk : cs.kind = .function)
    (hd : dp + k < recursionLimit) (hu : un + 8 * k < cLine)
    (ret : ∀ (t : Tok) h' tk', Fr h₀ L h' m₀ → News h₀ L h' news → Q (.int v t) { s with heap := h', toks := tk' }) :
    wpAny (model PySem.Challenge.rw_pc0359_01.row.prog w) (ktrTop dp un gd cn cs L a ccd cl outer) (call (.ref f) vs) Q E s :=
  claim_use C B F X N T hk hd hu fun r n h' tk' hr F' N' => by
    obtain ⟨t, rfl, rfl⟩ := hr
    exact ret t h' tk' F' N'

/-- an average told -/
theorem told_u {x dx : Addr} {k1 k2 t1 t2 t3 : Tok} {sh p level : Int}
    (B : Below A₀ base outer h₀) (F : Fr h₀ L s.heap m₀) (X : (hd.heap_39 w.params).In h₀) (N : News h₀ L s.heap news) (T : Top hd.view_39 (looseW hd.view_39 [Str.ofString "SettingError"]) mean mg mb h₀) (hk : cs.kind = .function)
    (U : UpdF dx (avgObj w k1 k2 sh t1 p t2) news g) (hx : (x, instObj 85 dx) ∈ news) (hne : @Ne Nat x dx) (h0 : 0 ≤ sh) (h1 : sh < 4) (h2 : 0 ≤ p) (h3 : p < 1000000) (h4 : 0 ≤ level) (h5 : level < 1000000)
    (hd : dp + 2 < recursionLimit) (hu : un + 16 < cLine)
    (ret : ∀ (q v : Int) (t t2' : Tok) h' tk', q = avgStep sh p level → v = avgVal sh q → Fr h₀ L h' m₀ → News h₀ L h' (g (avgObj w k1 k2 sh t1 q t2')) → Q (.int v t) { s with heap := h', toks := tk' }) :
    wpAny (model PySem.Challenge.rw_pc0359_01.row.prog w) (ktrTop dp un gd cn cs L a ccd cl outer) (call (.ref 82) [.ref x, .int level t3]) Q E s :=
  claim_use (told_c U hx hne h0 h1 h2 h3 h4 h5) B F X N T hk hd hu fun r n h' tk' hr F' N' => by
    obtain ⟨q, v, t, t2', hq, hv, rfl, rfl⟩ := hr
    exact ret q v t t2' h' tk' hq hv F' N'
end
end
section
open PySem PySem.W PySem.Spec PySem.Calls PyProof.Rows PyProof.V
set_option maxRecDepth 100000
set_option linter.unusedVariables false
set_option genInjectivity false
set_option genSizeOfSpec false
noncomputable abbrev rowObj (w : World) (k1 k2 k3 k4 k5 t1 : Tok) (room : Int) (t2 : Tok) (th : Addr) (oc : Int) (t3 : Tok) (dd : Int) (t4 : Tok) : Obj :=
  dictOf [⟨PyData.keyHash w.params (Str.ofString "most"), .str (Str.ofString "most") k1, .int 99 t1⟩, ⟨PyData.keyHash w.params (Str.ofString "most_octets"), .str (Str.ofString "most_octets") k2, .int room t2⟩, ⟨PyData.keyHash w.params (Str.ofString "things"), .str (Str.ofString "things") k3, .ref th⟩,
    ⟨PyData.keyHash w.params (Str.ofString "octets"), .str (Str.ofString "octets") k4, .int oc t3⟩, ⟨PyData.keyHash w.params (Str.ofString "dropped"), .str (Str.ofString "dropped") k5, .int dd t4⟩] 5
/-- the addresses and values that stay -/
structure QF where
  (sa rw dr th ow x dx tl c ba : Addr)
  (shift room : Int)
  (tsh trm : Tok)
  (fix : List (Addr × Obj))
/-- what turns -/
structure QS where
  (b m p oc dd : Int)
  (u3 u4 kA kB tS tP tp k1 k2 k3 k4 k5 r1 r2 r3 r4 : Tok)
  (n1 nv1 nv2 nt : Nat)
  (v1 v2 tv : List Value)
  (tl : List Int)
  (xs : List (Int × Int))
  (tups : List (Addr × Obj))
  (u : Str → Option Value)
noncomputable abbrev qM (f : QF) (p : Int) (tp : Tok) (u : Str → Option Value) : Str → Option Value := fun y =>
  if y = Str.ofString "parts" then some (.int p tp) else if y = Str.ofString "told" then some (.ref f.tl) else if y = Str.ofString "own" then some (.ref f.ow) else if y = Str.ofString "row" then some (.ref f.rw) else if y = Str.ofString "average" then some (.ref f.x)
  else if y = Str.ofString "source" then some (.ref f.sa) else if y = Str.ofString "shift" then some (.int f.shift f.tsh) else if y = Str.ofString "curve" then some (.ref f.c) else if y = Str.ofString "bounds" then some (.ref f.ba) else if y = Str.ofString "room" then some (.int f.room f.trm) else u y
noncomputable def QN (f : QF) (m : Str → Option Value) (p : Int) : Prop :=
  (∃ t, m (Str.ofString "parts") = some (.int p t)) ∧ m (Str.ofString "told") = some (.ref f.tl) ∧ m (Str.ofString "own") = some (.ref f.ow) ∧ m (Str.ofString "row") = some (.ref f.rw) ∧ m (Str.ofString "average") = some (.ref f.x) ∧
  m (Str.ofString "source") = some (.ref f.sa) ∧ m (Str.ofString "shift") = some (.int f.shift f.tsh) ∧ m (Str.ofString "curve") = some (.ref f.c) ∧ m (Str.ofString "bounds") = some (.ref f.ba) ∧ m (Str.ofString "room") = some (.int f.room f.trm)
theorem QN.eq {f : QF} {m : Str → Option Value} {p : Int} (h : QN f m p) : ∃ t, m = qM f p t m := by
  obtain ⟨⟨t, h0⟩, h1, h2, h3, h4, h5, h6, h7, h8, h9⟩ := h
  refine ⟨t, ?_⟩
  funext y
  unfold qM
  exact ite_is h0 (ite_is h1 (ite_is h2 (ite_is h3 (ite_is h4 (ite_is h5 (ite_is h6 (ite_is h7 (ite_is h8 (ite_is h9 rfl)))))))))

noncomputable abbrev qL (w : World) (f : QF) (Z : List (Addr × Obj)) (c : QS) : List (Addr × Obj) :=
  (f.tl, listOf c.tv.toArray c.nt) :: (f.ow, listOf c.v2.toArray c.nv2) :: (f.th, listOf c.v1.toArray c.nv1) :: (f.rw, instObj 169 f.dr) :: (f.dr, rowObj w c.k1 c.k2 c.k3 c.k4 c.k5 c.r1 f.room c.r2 f.th c.oc c.r3 c.dd c.r4) :: (f.x, instObj 85 f.dx) :: (f.dx, avgObj w c.kA c.kB f.shift c.tS c.p c.tP) :: (f.sa, listOf #[.int c.b c.u3, .int c.m c.u4] c.n1) :: Z
noncomputable abbrev qP (f : QF) : List Addr := [f.tl, f.ow, f.th, f.rw, f.dr, f.x, f.dx, f.sa]
noncomputable abbrev qA (f : QF) (Z : List (Addr × Obj)) : Prop := Ap 8 (f.tl :: f.ow :: f.th :: f.rw :: f.dr :: f.x :: f.dx :: f.sa :: Z.map Prod.fst)
/-- what holds of it after k turns -/
structure QJ (f : QF) (c : QS) (k : Int) : Prop where
  hb : 0 ≤ c.b
  hm : 0 ≤ c.m
  hm' : c.m < 2147483647
  t1 : Tups c.tups c.v1 c.xs
  t2 : Tups c.tups c.v2 c.xs
  sz : ∀ q ∈ c.xs, 0 ≤ q.1
  hoc : c.oc = tot c.xs
  hroom : c.oc ≤ f.room
  len : (c.xs.length : Int) ≤ k
  told : IntsAre c.tv c.tl
  zero : 0 ∈ c.tl
  tb : ∀ a ∈ c.tl, 0 ≤ a ∧ a ≤ f.room
  tlen : (c.tl.length : Int) ≤ k + 1
  p0 : 0 ≤ c.p
  pm : ∀ M, (∀ a ∈ c.tl, a ≤ M) → c.p < (M + 1) * 2 ^ f.shift.toNat
  d0 : 0 ≤ c.dd
  d1 : c.dd ≤ k
theorem mem_l {α : Type} (s t : List α) {a : α} (h : a ∈ s) : a ∈ s ++ t := List.mem_append.mpr (.inl h)
theorem mem_r {α : Type} (s t : List α) {a : α} (h : a ∈ t) : a ∈ s ++ t := List.mem_append.mpr (.inr h)
theorem mem_i {α : Type} (s t : List α) {a : α} (h : a ∈ s ∨ a ∈ t) : a ∈ s ++ t := List.mem_append.mpr h
theorem qA_of {f : QF} {Z : List (Addr × Obj)} (hA : qA f f.fix) (h : ∀ p ∈ Z, p ∈ f.fix ∨ p.1 ∉ qP f) : qA f Z :=
  Ap.off (pre := qP f) (t := f.fix.map Prod.fst) rfl hA fun a ha => by
    obtain ⟨p, hp, rfl⟩ := List.mem_map.mp ha
    exact (h p hp).imp List.mem_map_of_mem id
theorem qA_more {f : QF} {Z Z' : List (Addr × Obj)} (hA : qA f Z) (h : ∀ p ∈ Z', p ∈ Z) : qA f Z' :=
  Ap.tail (pre := qP f) (t := Z.map Prod.fst) (fun a ha => by
    obtain ⟨p, hp, rfl⟩ := List.mem_map.mp ha
    exact List.mem_map_of_mem (h p hp)) rfl hA
theorem qL_sub {w : World} {f : QF} {h₀ h : Heap} {L : Addr} {Z Z' : List (Addr × Obj)} {c : QS} (N : News h₀ L h (qL w f Z c)) (hZ : ∀ p ∈ Z', p ∈ Z) : News h₀ L h (qL w f Z' c) := by
  refine news_sub N ?_
  intro q hq
  rcases List.mem_append.mp (show q ∈ (qL w f [] c) ++ Z' from hq) with h1 | h1
  · exact mem_l (qL w f [] c) Z h1
  · exact mem_r (qL w f [] c) Z (hZ q h1)

section
variable {prog : Program} {w : World} {A : Around} {E : Value → Shared → Prop} {s : Shared} {env : Env} {h₀ : Heap} {x : Str} {body : List Stmt} {Q : Flow → Shared → Prop}
theorem queue_loop {r : Addr} {b₀ : Int} {t₀ u₀ v₀ : Tok} {n : Nat} {m₀ : Str → Option Value} {news : List (Addr × Obj)} (f : QF) (c₀ : QS)
    (hh : A.handled = none) (hr : IsRange s.heap r 0 b₀ 1 t₀ u₀ v₀) (hsmall : Builtin.Range.small 0 b₀ 1 = true) (hsz : Builtin.Range.rangeSize 0 b₀ 1 = (n : Int)) (F : Fr h₀ env.locals s.heap m₀) (N : News h₀ env.locals s.heap news)
    (hm : QN f m₀ c₀.p) (hn : ∀ p ∈ qL w f (c₀.tups ++ f.fix) c₀, p ∈ news) (hj : QJ f c₀ 0) (ht₀ : c₀.tups = []) (hA : qA f f.fix) (hlt : ∀ a ∈ qP f, a ≠ f.tl → a < f.tl)
    (turn : ∀ (k : Int) (t : Tok) (h : Heap) (tk : Nat) (Z : List (Addr × Obj)) (c : QS) (R : Flow → Shared → Prop),
      0 ≤ k → k < n → qA f Z → (∀ p ∈ f.fix, p ∈ Z) → (∀ p ∈ c.tups, p ∈ Z) → QJ f c k →
      Fr h₀ env.locals h (fun y => if y = x then some (.int k t) else qM f c.p c.tp c.u y) → News h₀ env.locals h (qL w f Z c) →
      (∀ (fl : Flow) (h' : Heap) (tk' : Nat) (m' : Str → Option Value) (nw : List (Addr × Obj)) (c' : QS),
        (fl = .next ∨ fl = .cont) → c'.tups = nw ++ c.tups → QN f m' c'.p → (∀ p ∈ nw, f.tl < p.1) → OwnOff Z (nw.map (·.1)) → QJ f c' (k + 1) → Fr h₀ env.locals h' m' → News h₀ env.locals h' (qL w f (nw ++ Z) c') → R fl { s with heap := h', toks := tk' }) →
      wpAny (model prog w) A (execs body env) R E { s with heap := h, toks := tk })
    (done : ∀ (h : Heap) (tk : Nat) (Z : List (Addr × Obj)) (c : QS),
      (∀ p ∈ f.fix, p ∈ Z) → (∀ p ∈ c.tups, p ∈ Z) → QJ f c n → Fr h₀ env.locals h (qM f c.p c.tp c.u) → News h₀ env.locals h (qL w f Z c) → Q .next { s with heap := h, toks := tk }) :
    wpAny (model prog w) A (pyIter (.ref r)) (fun it s₂ => LoopAtV prog w A h₀ env x body Q E it s₂) E s := by
  have hle : ∀ a ∈ qP f, ∀ b, f.tl < b → b ≠ a := by
    intro a ha b hb e
    subst e
    by_cases h : b = f.tl
    · rw [h] at hb; exact Nat.lt_irrefl _ hb
    · exact Nat.lt_irrefl _ (Nat.lt_trans hb (hlt _ ha h))
  refine range_state (σ := QS) (n := n) (fun c => qM f c.p c.tp c.u) (fun c => qL w f (c.tups ++ f.fix) c) (fun i c => QJ f c (i : Int) ∧ ∀ p ∈ c.tups, f.tl < p.1) { c₀ with u := m₀, tp := hm.eq.choose } hh hr hsmall hsz F N hm.eq.choose_spec hn ⟨⟨hj.hb, hj.hm, hj.hm', hj.t1, hj.t2, hj.sz, hj.hoc, hj.hroom, hj.len, hj.told, hj.zero, hj.tb, hj.tlen, hj.p0, hj.pm, hj.d0, hj.d1⟩, fun p hp => by rw [show (QS.tups { c₀ with u := m₀, tp := hm.eq.choose }) = c₀.tups from rfl, ht₀] at hp; cases hp⟩ ?_ ?_
  · rintro i c t h tk own hi ⟨hJ, hT⟩ hown F₁ N₁
    refine turn (i : Int) t h tk (c.tups ++ f.fix ++ own) c _ (by omega) (by omega) (qA_of hA fun p hp => ?_) (fun p hp => by simp [hp]) (fun p hp => by simp [hp]) hJ (by simpa using F₁) ?_ ?_
    · rcases List.mem_append.mp hp with hp | hp
      · rcases List.mem_append.mp hp with hp | hp
        · exact .inr fun hm => hle _ hm _ (hT p hp) rfl
        · exact .inl hp
      · refine .inr fun hm => hown p hp p.1 ?_ rfl
        exact mem_l (qP f) ((c.tups ++ f.fix).map Prod.fst) hm
    · refine news_sub N₁ ?_
      intro p hp
      exact hp
    · intro fl h' tk' m' nw c' hfl ht hq hnw hz hJ' F' N'
      obtain ⟨tp', hm'⟩ := hq.eq
      have key : InvEndG h₀ env.locals (fun m' nx => ∃ c' : QS, m' = qM f c'.p c'.tp c'.u ∧ nx = qL w f (c'.tups ++ f.fix) c' ∧ (QJ f c' ((i + 1 : Nat) : Int) ∧ ∀ p ∈ c'.tups, f.tl < p.1)) own { s with heap := h, toks := tk } { s with heap := h', toks := tk' } := by
        refine InvEndG.intro (s₁ := { s with heap := h, toks := tk }) F' N' ⟨{ c' with tp := tp', u := m' }, hm', rfl, ?_, ?_⟩ ?_ ?_ ?_
        · rw [show ((i + 1 : Nat) : Int) = (i : Int) + 1 by omega]
          exact ⟨hJ'.hb, hJ'.hm, hJ'.hm', hJ'.t1, hJ'.t2, hJ'.sz, hJ'.hoc, hJ'.hroom, hJ'.len, hJ'.told, hJ'.zero, hJ'.tb, hJ'.tlen, hJ'.p0, hJ'.pm, hJ'.d0, hJ'.d1⟩
        · intro q hq
          rw [show (QS.tups { c' with tp := tp', u := m' }) = c'.tups from rfl, ht] at hq
          rcases List.mem_append.mp hq with hq | hq
          · exact hnw q hq
          · exact hT q hq
        · intro q hq b hb
          have hb' : b ∈ qP f ++ (c'.tups ++ f.fix).map (·.1) := hb
          rcases List.mem_append.mp hb' with h1 | h1
          · exact hown q hq b (mem_l (qP f) ((c.tups ++ f.fix).map Prod.fst) h1)
          · rw [ht, List.append_assoc, List.map_append] at h1
            rcases List.mem_append.mp h1 with h1 | h1
            · exact hz q (by simp [hq]) b h1
            · exact hown q hq b (mem_r (qP f) ((c.tups ++ f.fix).map Prod.fst) h1)
        · intro q hq
          have hq' : q ∈ qL w f [] c' ++ (c'.tups ++ f.fix) := hq
          rw [ht] at hq'
          refine mem_i (qL w f [] c') (nw ++ (c.tups ++ f.fix ++ own)) ((List.mem_append.mp hq').imp id fun h1 => ?_)
          simp only [List.mem_append] at h1 ⊢
          rcases h1 with (h1 | h1) | h1 <;> simp [h1]
        · intro q hq
          exact mem_r (qL w f [] c') (nw ++ (c.tups ++ f.fix ++ own)) (by simp [hq])
      rcases hfl with rfl | rfl
      · exact key
      · exact key
  · rintro c h tk ⟨hJ, hT⟩ F₁ N₁
    exact done h tk (c.tups ++ f.fix) c (fun p hp => by simp [hp]) (fun p hp => by simp [hp]) hJ F₁ N₁
end
end
section
open PySem PySem.W PySem.Spec PySem.Calls PyProof.Rows PyProof.V
set_option maxRecDepth 100000
set_option linter.unusedVariables false
theorem QJ.mid {f : QF} {c : QS} {k b' m' : Int} {u3 u4 : Tok} {n1 : Nat} (j : QJ f c k) (h0 : 0 ≤ b') (h1 : 0 ≤ m') (h2 : m' < 2147483647) : QJ f { c with b := b', m := m', u3 := u3, u4 := u4, n1 := n1 } k :=
  ⟨h0, h1, h2, j.t1, j.t2, j.sz, j.hoc, j.hroom, j.len, j.told, j.zero, j.tb, j.tlen, j.p0, j.pm, j.d0, j.d1⟩
theorem QJ.pop {f : QF} {c : QS} {k b' m' s1 n1 : Int} {a1 a2 : Value} {v1 v2 : List Value} {xs : List (Int × Int)} {u3 u4 r3 : Tok} {j1 j2 j3 : Nat} (j : QJ f c k) (e1 : c.v1 = a1 :: v1) (e2 : c.v2 = a2 :: v2) (e3 : c.xs = (s1, n1) :: xs)
    (h0 : 0 ≤ b') (h1 : 0 ≤ m') (h2 : m' < 2147483647) : QJ f { c with b := b', m := m', u3 := u3, u4 := u4, n1 := j1, r3 := r3, nv1 := j2, nv2 := j3, oc := c.oc - s1, v1 := v1, v2 := v2, xs := xs } k := by
  have a0 := j.hoc
  have a1' := j.sz
  have a2' := j.len
  have a3 := j.t1
  have a4 := j.t2
  have a5 := j.hroom
  rw [e3] at a0 a1' a2'
  rw [e1, e3] at a3
  rw [e2, e3] at a4
  rw [tot_cons] at a0
  have b1 := a1' (s1, n1) (.head _)
  dsimp only at a0 b1
  rw [List.length_cons] at a2'
  refine ⟨h0, h1, h2, ?_, ?_, fun q hq => a1' q (.tail _ hq), ?_, ?_, ?_, j.told, j.zero, j.tb, j.tlen, j.p0, j.pm, j.d0, j.d1⟩
  · cases a3; assumption
  · cases a4; assumption
  · show c.oc - s1 = tot xs
    omega
  · show c.oc - s1 ≤ f.room
    omega
  · show (xs.length : Int) ≤ k
    omega
theorem QJ.pow {f : QF} (h0 : 0 ≤ f.shift) (h1 : f.shift < 4) : 0 < (2 : Int) ^ f.shift.toNat := by
  rcases pow_cases h0 h1 with e | e | e | e <;> rw [e] <;> decide
theorem QJ.hoc0 {f : QF} {c : QS} {k : Int} (j : QJ f c k) : 0 ≤ c.oc := by rw [j.hoc]; exact tot_nonneg j.sz
theorem QJ.bound {f : QF} {c : QS} {k M : Int} (j : QJ f c k) (hs0 : 0 ≤ f.shift) (hs1 : f.shift < 4) (hM : ∀ a ∈ c.tl ++ [c.oc], a ≤ M) : 0 ≤ avgStep f.shift c.p c.oc ∧ avgStep f.shift c.p c.oc < (M + 1) * 2 ^ f.shift.toNat :=
  avg_bounds (M := M) hs0 hs1 j.p0 (j.pm _ fun a ha => hM a (by simp [ha])) j.hoc0 (hM c.oc (by simp))
theorem QJ.inroom {f : QF} {c : QS} {k : Int} (j : QJ f c k) : ∀ a ∈ c.tl ++ [c.oc], 0 ≤ a ∧ a ≤ f.room := by
  intro a ha
  rcases List.mem_append.mp ha with ha | ha
  · exact j.tb a ha
  · rw [List.mem_singleton.mp ha]; exact ⟨j.hoc0, j.hroom⟩
theorem QJ.stay {f : QF} {c c' : QS} {k : Int} {t : Tok} (j : QJ f c k) (hs0 : 0 ≤ f.shift) (hs1 : f.shift < 4) (h0 : 0 ≤ c'.b) (h1 : 0 ≤ c'.m) (h2 : c'.m < 2147483647) (hp : c'.p = avgStep f.shift c.p c.oc) (hd : c'.dd = c.dd ∨ c'.dd = c.dd + 1)
    (eo : c'.oc = c.oc) (e1 : c'.v1 = c.v1) (e2 : c'.v2 = c.v2) (e3 : c'.tv = c.tv ++ [.int c.oc t]) (e4 : c'.tl = c.tl ++ [c.oc]) (e5 : c'.xs = c.xs) (hZ : ∀ q ∈ c.tups, q ∈ c'.tups) : QJ f c' (k + 1) := by
  have a1 := j.len
  have a2 := j.tlen
  have a3 := j.d0
  have a4 := j.d1
  refine ⟨h0, h1, h2, ?_, ?_, ?_, ?_, ?_, ?_, ?_, ?_, ?_, ?_, ?_, ?_, ?_, ?_⟩
  · rw [e1, e5]; exact j.t1.mono hZ
  · rw [e2, e5]; exact j.t2.mono hZ
  · rw [e5]; exact j.sz
  · rw [eo, e5]; exact j.hoc
  · rw [eo]; exact j.hroom
  · rw [e5]; omega
  · rw [e3, e4]; exact j.told.append (.cons _ t .nil)
  · rw [e4]; simp [j.zero]
  · rw [e4]; exact j.inroom
  · rw [e4]; simp; omega
  · rw [hp]; exact (j.bound hs0 hs1 fun a ha => (j.inroom a ha).2).1
  · intro M hM
    rw [e4] at hM
    rw [hp]; exact (j.bound hs0 hs1 hM).2
  · omega
  · omega
/-- told, then put in -/
theorem QJ.both {f : QF} {c c' : QS} {k s1 n1 : Int} {t t1 u1 t2 u2 : Tok} {p1 p2 : Addr} {c1 c2 : Nat} (j : QJ f c k) (hs0 : 0 ≤ f.shift) (hs1 : f.shift < 4) (h0 : 0 ≤ c'.b) (h1 : 0 ≤ c'.m) (h2 : c'.m < 2147483647) (hp : c'.p = avgStep f.shift c.p c.oc) (hd : c'.dd = c.dd)
    (eo : c'.oc = c.oc + s1) (e1 : c'.v1 = c.v1 ++ [.ref p1]) (e2 : c'.v2 = c.v2 ++ [.ref p2]) (e3 : c'.tv = c.tv ++ [.int c.oc t]) (e4 : c'.tl = c.tl ++ [c.oc]) (e5 : c'.xs = c.xs ++ [(s1, n1)]) (hZ : ∀ q ∈ c.tups, q ∈ c'.tups)
    (hn : 0 ≤ s1) (hr : c.oc + s1 ≤ f.room) (m1 : (p1, tupObj s1 n1 t1 u1 c1) ∈ c'.tups) (m2 : (p2, tupObj s1 n1 t2 u2 c2) ∈ c'.tups) : QJ f c' (k + 1) := by
  have i : QJ f { c with b := c'.b, m := c'.m, p := c'.p, tv := c'.tv, tl := c'.tl, tups := c'.tups } (k + 1) := j.stay (c' := { c with b := c'.b, m := c'.m, p := c'.p, tv := c'.tv, tl := c'.tl, tups := c'.tups }) hs0 hs1 h0 h1 h2 hp (.inl rfl) rfl rfl rfl e3 e4 rfl hZ
  have a1 := j.len
  refine ⟨h0, h1, h2, ?_, ?_, ?_, ?_, ?_, ?_, i.told, i.zero, i.tb, i.tlen, i.p0, i.pm, by rw [hd]; exact i.d0, by rw [hd]; exact i.d1⟩
  · rw [e1, e5]; exact i.t1.append m1
  · rw [e2, e5]; exact i.t2.append m2
  · rw [e5]
    intro q hq
    rcases List.mem_append.mp hq with hq | hq
    · exact j.sz q hq
    · rw [List.mem_singleton.mp hq]; exact hn
  · rw [eo, e5, tot_snoc, ← j.hoc]
  · rw [eo]; exact hr
  · rw [e5]; simp; omega
theorem rangeSize_toNat (b : Int) : Builtin.Range.rangeSize 0 b 1 = ((b.toNat : Nat) : Int) := by
  rw [rangeSize_nat]; simp
/-- seen is between the least and the greatest -/
theorem QJ.seen {f : QF} {c : QS} {k M v : Int} (j : QJ f c k) (hs0 : 0 ≤ f.shift) (hs1 : f.shift < 4) (hv : v = avgVal f.shift (avgStep f.shift c.p c.oc)) (hM : ∀ a ∈ c.tl ++ [c.oc], a ≤ M) : 0 ≤ v ∧ v ≤ M := by
  have h1 := j.bound hs0 hs1 hM
  rw [hv]
  exact avgVal_bounds hs0 hs1 h1.1 h1.2
theorem QJ.seen0 {f : QF} {c : QS} {k v : Int} (j : QJ f c k) (hs0 : 0 ≤ f.shift) (hs1 : f.shift < 4) (hv : v = avgVal f.shift (avgStep f.shift c.p c.oc)) : 0 ≤ v ∧ v ≤ f.room :=
  j.seen hs0 hs1 hv fun a ha => (j.inroom a ha).2
theorem QJ.low {f : QF} {c : QS} {k M : Int} (j : QJ f c k) (hM : M ∈ c.tl ++ [c.oc]) (hM' : ∀ a ∈ c.tl ++ [c.oc], M ≤ a) : M ≤ 0 := hM' 0 (by simp [j.zero])
theorem QJ.pbound {f : QF} {c : QS} {k : Int} (j : QJ f c k) (h0 : 0 ≤ f.shift) (h1 : f.shift < 4) (hr : f.room < 50) : c.p < 1000 := by
  have := j.pm 49 fun a ha => by have := (j.tb a ha).2; omega
  rcases pow_cases h0 h1 with e | e | e | e <;> rw [e] at this <;> omega
theorem QJ.bounds {f : QF} {c : QS} {k : Int} (j : QJ f c k) (hk : k < 15) : c.v1.length < 20 ∧ c.v2.length < 20 ∧ c.tv.length < 20 := by
  have a1 := j.t1.length
  have a2 := j.t2.length
  have a3 := j.told.length
  have a4 := j.len
  have a5 := j.tlen
  refine ⟨?_, ?_, ?_⟩ <;> omega
theorem QJ.start {f : QF} {c : QS} {t : Tok} (hb : 0 ≤ c.b) (hm : 0 ≤ c.m) (hm' : c.m < 2147483647) (hr : 0 ≤ f.room) (hs0 : 0 ≤ f.shift) (hs1 : f.shift < 4) (e1 : c.v1 = []) (e2 : c.v2 = []) (e3 : c.tv = [.int 0 t]) (e4 : c.tl = [0]) (e5 : c.xs = []) (e6 : c.oc = 0) (e7 : c.p = 0) (e8 : c.dd = 0) : QJ f c 0 := by
  refine ⟨hb, hm, hm', by rw [e1, e5]; exact .nil, by rw [e2, e5]; exact .nil, by rw [e5]; simp, by rw [e5, e6]; simp [tot], by rw [e6]; exact hr, by rw [e5]; simp, by rw [e3, e4]; exact .cons 0 t .nil, by rw [e4]; simp, by rw [e4]; simp [hr], by rw [e4]; simp, by rw [e7]; exact Int.le_refl _, ?_, by rw [e8]; exact Int.le_refl _, by rw [e8]; exact Int.le_refl _⟩
  intro M hM
  rw [e4] at hM
  have h1 : 0 ≤ M := hM 0 (by simp)
  have := QJ.pow hs0 hs1
  rw [e7]
  exact Int.mul_pos (by omega) this

theorem off2 {Z : List (Addr × Obj)} {a1 a2 : Addr} {o1 o2 : Obj} (h1 : ∀ p ∈ Z, p.1 ≠ a1) (h2 : ∀ p ∈ Z, p.1 ≠ a2) : OwnOff Z ([(a1, o1), (a2, o2)].map (·.1)) := by
  intro p hp b hb
  simp only [List.map_cons, List.map_nil, List.mem_cons, List.not_mem_nil, or_false] at hb
  rcases hb with rfl | rfl
  · exact h1 p hp
  · exact h2 p hp

section
variable {prog : Program} {w : World} {A : Around} {E : Value → Shared → Prop} {s : Shared} {h₀ : Heap} {L D a b : Addr} {m : Str → Option Value} {news : List (Addr × Obj)} {Q : Value → Shared → Prop}
/-- the sum of a list just made; the list is forgotten -/
theorem sum_dr {ys : List Value} {xs : List (Int × Int)} {n : Nat} {o : Int} (e : o = tot xs) (hh : A.handled = none) (F : Fr h₀ L s.heap m) (N : News h₀ L s.heap ((D, listOf ys.toArray n) :: news)) (hi : IntsAre ys (xs.map (·.1)))
    (h : ∀ h' tk t', Fr h₀ L h' m → News h₀ L h' news → Q (.int o t') { s with heap := h', toks := tk }) : wpAny (model prog w) A (call (.builtin "sum") [.ref D]) Q E s :=
  sumK hh F N (News.isList N (.head _)) hi fun h' tk t' F' N' => by
    subst e
    exact h h' tk t' F' fun p hp => N' p (.tail _ hp)
end
section
variable {prog : Program} {w : World} {A : Around} {E : Value → Shared → Prop} {s : Shared} {Q : Value → Shared → Prop} {x y : Int} {t u : Tok}
theorem le_true (h : x ≤ y) (k : Q (.bool true) s) : wpAny (model prog w) A (compareOp .LtE (.int x t) (.int y u)) Q E s :=
  PyProof.Rows.le_int (by rw [decide_eq_true h]; exact k)
theorem ne_false (h : x = y) (k : Q (.bool false) s) : wpAny (model prog w) A (compareOp .NotEq (.int x t) (.int y u)) Q E s :=
  PyProof.Rows.ne_int (by rw [h, bne_self_eq_false]; exact k)
theorem neb_false {b c : Bool} (h : b = c) (k : Q (.bool false) s) : wpAny (model prog w) A (compareOp .NotEq (.bool b) (.bool c)) Q E s :=
  PyProof.Rows.ne_bool (by rw [h, bne_self_eq_false]; exact k)
theorem tt_le (h : x ≤ y) : true = decide (x ≤ y) := (decide_eq_true h).symm
theorem ff_le (h : y < x) : false = decide (x ≤ y) := (decide_eq_false (Int.not_le.mpr h)).symm
end
noncomputable def pickRetM (g : Obj → List (Addr × Obj)) (ns : List Int) (r : Value) (news' : List (Addr × Obj)) : Prop :=
  ∃ (v : Int) (b m : Int) (t1 t2 t3 : Tok) (n : Nat), r = .int v t1 ∧ v ∈ ns ∧ 0 ≤ b ∧ 0 ≤ m ∧ m < 2147483647 ∧ news' = g (listOf #[.int b t2, .int m t3] n)
theorem one_m {w : World} {sa ta : Addr} {b m : Int} {t2 t3 : Tok} {n n2 : Nat} {vs : List Value} {ns : List Int} {news : List (Addr × Obj)} {g : Obj → List (Addr × Obj)} (U : UpdF sa (listOf #[.int b t2, .int m t3] n) news g)
    (hta : (ta, listOf vs.toArray n2) ∈ news) (hne : @Ne Nat ta sa) (hi : IntsAre vs ns)
    (hb : 0 ≤ b) (hm : 0 ≤ m) (hm' : m < 2147483647) (hl : 0 < ns.length) (hl' : ns.length < 1000) : Claim w 3 194 [.ref sa, .ref ta] news (pickRetM g ns) := by
  refine claim_conv fun h₀ L h N => ?_
  refine ⟨_, _, one_c U hta hne hi hb hm hm' hl hl', fun _ hp => hp, ?_⟩
  rintro r n1 ⟨d, b', m', t1', t2', t3', n', rfl, k1, k2, k3, k4, rfl⟩
  refine ⟨_, ⟨_, b', m', t1', t2', t3', n', rfl, ?_, k2, k3, k4, rfl⟩, fun _ hp => hp⟩
  have e : ns.getD d 0 = ns[d] := by simp [k1]
  rw [e]
  exact List.getElem_mem k1
theorem one_size {v : Int} (h : v ∈ [1, 3, 8, 20]) : 1 ≤ v ∧ v ≤ 20 := by
  simp only [List.mem_cons, List.not_mem_nil, or_false] at h
  omega
section
variable {prog : Program} {w : World} {A : Around} {E : Value → Shared → Prop} {s : Shared} {env : Env} {R : Flow → Shared → Prop}
noncomputable def Cut (P : Shared → Prop) (f : Flow) (s : Shared) : Prop := f = .next ∧ P s
theorem execs_cut (P : Shared → Prop) {st : Stmt} {rest : List Stmt} (h : wpAny (model prog w) A (exec st env) (Cut P) E s) (k : ∀ s', P s' → wpAny (model prog w) A (execs rest env) R E s') : wpAny (model prog w) A (execs (st :: rest) env) R E s := by
  rw [execs_cons]
  refine wpAny_bind (wpAny_mono h (fun f s' hf => ?_) fun _ _ e => e)
  obtain ⟨rfl, hp⟩ := hf
  exact k s' hp
end
/-- what a turn owes -/
noncomputable def QR (w : World) (f : QF) (c : QS) (Z : List (Addr × Obj)) (k : Int) (h₀ : Heap) (L : Addr) (s : Shared) (R : Flow → Shared → Prop) : Prop :=
  ∀ (fl : Flow) (h' : Heap) (tk' : Nat) (m' : Str → Option Value) (nw : List (Addr × Obj)) (c' : QS),
    News h₀ L h' (qL w f (nw ++ Z) c') → (fl = .next ∨ fl = .cont) → c'.tups = nw ++ c.tups → QN f m' c'.p → (∀ p ∈ nw, f.tl < p.1) → OwnOff Z (nw.map (·.1)) → QJ f c' (k + 1) → Fr h₀ L h' m' → R fl { s with heap := h', toks := tk' }
theorem stay_end {w : World} {f : QF} {c : QS} {Z : List (Addr × Obj)} {k : Int} {h₀ : Heap} {L : Addr} {s : Shared} {R : Flow → Shared → Prop} (hR : QR w f c Z k h₀ L s R) (hJ : QJ f c k) (hs0 : 0 ≤ f.shift) (hs1 : f.shift < 4)
    {fl : Flow} {h' : Heap} {tk' : Nat} {m' : Str → Option Value} {b m p dd : Int} {u3 u4 kA kB tS tP k1 k2 k3 k4 k5 r1 r2 r3 r4 t : Tok} {n1 nv1 nv2 nt : Nat}
    (N : News h₀ L h' (qL w f Z ⟨b, m, p, c.oc, dd, u3, u4, kA, kB, tS, tP, c.tp, k1, k2, k3, k4, k5, r1, r2, r3, r4, n1, nv1, nv2, nt, c.v1, c.v2, c.tv ++ [.int c.oc t], c.tl ++ [c.oc], c.xs, c.tups, c.u⟩))
    (F : Fr h₀ L h' m') (hb : 0 ≤ b) (hm : 0 ≤ m) (hm' : m < 2147483647) (hq : p = avgStep f.shift c.p c.oc) (hd : dd = c.dd ∨ dd = c.dd + 1) (hfl : fl = .next ∨ fl = .cont) (hM : QN f m' (avgStep f.shift c.p c.oc)) : R fl { s with heap := h', toks := tk' } :=
  hR fl h' tk' m' [] _ N hfl rfl (by subst hq; exact hM) (List.forall_mem_nil _) (fun p hp b hb => by cases hb) (hJ.stay hs0 hs1 hb hm hm' hq hd rfl rfl rfl rfl rfl rfl fun q h => h) F
theorem put_end {w : World} {f : QF} {c : QS} {Z : List (Addr × Obj)} {k : Int} {h₀ : Heap} {L : Addr} {s : Shared} {R : Flow → Shared → Prop} (hR : QR w f c Z k h₀ L s R) (hJ : QJ f c k) (hs0 : 0 ≤ f.shift) (hs1 : f.shift < 4)
    {h' : Heap} {tk' : Nat} {m' : Str → Option Value} {b m p s1 i1 : Int} {u3 u4 kA kB tS tP k1 k2 k3 k4 k5 r1 r2 r3 r4 t x1 y1 x2 y2 : Tok} {n1 nv1 nv2 nt z1 z2 : Nat} {p1 p2 : Addr}
    (N : News h₀ L h' (qL w f ((p1, tupObj s1 i1 x1 y1 z1) :: (p2, tupObj s1 i1 x2 y2 z2) :: Z) ⟨b, m, p, c.oc + s1, c.dd, u3, u4, kA, kB, tS, tP, c.tp, k1, k2, k3, k4, k5, r1, r2, r3, r4, n1, nv1, nv2, nt, c.v1 ++ [.ref p1], c.v2 ++ [.ref p2], c.tv ++ [.int c.oc t], c.tl ++ [c.oc], c.xs ++ [(s1, i1)], (p1, tupObj s1 i1 x1 y1 z1) :: (p2, tupObj s1 i1 x2 y2 z2) :: c.tups, c.u⟩))
    (F : Fr h₀ L h' m') (hb : 0 ≤ b) (hm : 0 ≤ m) (hm' : m < 2147483647) (hq : p = avgStep f.shift c.p c.oc) (hM : QN f m' (avgStep f.shift c.p c.oc)) (l1 : @LT.lt Nat _ f.tl p1) (l2 : @LT.lt Nat _ f.tl p2) (o1 : ∀ q ∈ Z, q.1 ≠ p1) (o2 : ∀ q ∈ Z, q.1 ≠ p2)
    (hn : 0 ≤ s1) (hr : c.oc + s1 ≤ f.room) : R .next { s with heap := h', toks := tk' } :=
  hR .next h' tk' m' [(p1, tupObj s1 i1 x1 y1 z1), (p2, tupObj s1 i1 x2 y2 z2)] _ N (.inl rfl) rfl (by subst hq; exact hM) (List.forall_mem_cons.mpr ⟨l1, List.forall_mem_cons.mpr ⟨l2, List.forall_mem_nil _⟩⟩) (off2 o1 o2)
    (hJ.both hs0 hs1 hb hm hm' hq rfl rfl rfl rfl rfl rfl rfl (fun q h => .tail _ (.tail _ h)) hn hr (.head _) (.tail _ (.head _))) F
inductive Two (Z : List (Addr × Obj)) : List Value → List Value → List (Int × Int) → Prop
  | nil : Two Z [] [] []
  | cons {a1 a2 : Addr} {s1 i1 : Int} {w1 w2 w3 w4 : Tok} {c1 c2 : Nat} {vs1 vs2 : List Value} {xs : List (Int × Int)} (m1 : (a1, tupObj s1 i1 w1 w2 c1) ∈ Z) (m2 : (a2, tupObj s1 i1 w3 w4 c2) ∈ Z) (r1 : Tups Z vs1 xs) (r2 : Tups Z vs2 xs) :
      Two Z (.ref a1 :: vs1) (.ref a2 :: vs2) ((s1, i1) :: xs)
theorem Two.of {Z : List (Addr × Obj)} {v1 v2 : List Value} {xs : List (Int × Int)} (h1 : Tups Z v1 xs) (h2 : Tups Z v2 xs) : Two Z v1 v2 xs := by
  cases h1 with
  | nil => cases h2; exact .nil
  | cons m1 r1 => cases h2 with | cons m2 r2 => exact .cons m1 m2 r1 r2
theorem len20 {k : Int} {q : Int × Int} {xs : List (Int × Int)} (h : (((q :: xs).length : Nat) : Int) ≤ k) (h' : k < 15) : xs.length < 20 := by
  rw [List.length_cons] at h
  omega
inductive QCut (w : World) (f : QF) (c : QS) (Z : List (Addr × Obj)) (k : Int) (h₀ : Heap) (L : Addr) (x : Str) (t : Tok) (s : Shared) : Shared → Prop
  | mk (h' : Heap) (tk' : Nat) (c' : QS) (e1 : c'.p = c.p) (e2 : c'.tp = c.tp) (e3 : c'.u = c.u) (e4 : c'.tups = c.tups) (F : Fr h₀ L h' (fun y => if y = x then some (.int k t) else qM f c.p c.tp c.u y)) (N : News h₀ L h' (qL w f Z c')) (hJ : QJ f c' k) :
      QCut w f c Z k h₀ L x t s { s with heap := h', toks := tk' }
section
variable {prog : Program} {w : World} {A : Around} {E : Value → Shared → Prop} {s : Shared} {env : Env} {h₀ : Heap} {x : Str} {st : Stmt} {rest : List Stmt} {Q : Flow → Shared → Prop}
theorem queue_loop3 {r : Addr} {b₀ : Int} {t₀ u₀ v₀ : Tok} {n : Nat} {m₀ : Str → Option Value} {news : List (Addr × Obj)} (f : QF) (c₀ : QS)
    (hh : A.handled = none) (hr : IsRange s.heap r 0 b₀ 1 t₀ u₀ v₀) (hsmall : Builtin.Range.small 0 b₀ 1 = true) (hsz : Builtin.Range.rangeSize 0 b₀ 1 = (n : Int)) (F : Fr h₀ env.locals s.heap m₀) (N : News h₀ env.locals s.heap news)
    (hm : QN f m₀ c₀.p) (hn : ∀ p ∈ qL w f (c₀.tups ++ f.fix) c₀, p ∈ news) (hj : QJ f c₀ 0) (ht₀ : c₀.tups = []) (hA : qA f f.fix) (hlt : ∀ a ∈ qP f, a ≠ f.tl → a < f.tl) (hn15 : n < 15)
    (turnN : ∀ (k : Int) (t : Tok) (h : Heap) (tk : Nat) (Z : List (Addr × Obj)) (c : QS) (R : Flow → Shared → Prop),
      c.v1 = [] → c.v2 = [] → qA f Z → 0 ≤ c.b → 0 ≤ c.m → c.m < 2147483647 →
      Fr h₀ env.locals h (fun y => if y = x then some (.int k t) else qM f c.p c.tp c.u y) → News h₀ env.locals h (qL w f Z c) →
      (∀ (h' : Heap) (tk' : Nat) (b m : Int) (u3 u4 : Tok) (n1 : Nat), 0 ≤ b → 0 ≤ m → m < 2147483647 → Fr h₀ env.locals h' (fun y => if y = x then some (.int k t) else qM f c.p c.tp c.u y) → News h₀ env.locals h' (qL w f Z { c with b := b, m := m, u3 := u3, u4 := u4, n1 := n1 }) → R .next { s with heap := h', toks := tk' }) →
      wpAny (model prog w) A (exec st env) R E { s with heap := h, toks := tk })
    (turnC : ∀ (k : Int) (t : Tok) (h : Heap) (tk : Nat) (Z : List (Addr × Obj)) (c : QS) (a1 a2 : Addr) (s1 i1 : Int) (w1 w2 w3 w4 : Tok) (c1 c2 : Nat) (v1 v2 : List Value) (xs : List (Int × Int)) (R : Flow → Shared → Prop),
      c.v1 = .ref a1 :: v1 → c.v2 = .ref a2 :: v2 → qA f ((a1, tupObj s1 i1 w1 w2 c1) :: (a2, tupObj s1 i1 w3 w4 c2) :: Z) → 0 ≤ c.b → 0 ≤ c.m → c.m < 2147483647 → v1.length < 20 → v2.length < 20 → Tups Z (.ref a2 :: v2) ((s1, i1) :: xs) →
      Fr h₀ env.locals h (fun y => if y = x then some (.int k t) else qM f c.p c.tp c.u y) → News h₀ env.locals h (qL w f ((a1, tupObj s1 i1 w1 w2 c1) :: (a2, tupObj s1 i1 w3 w4 c2) :: Z) c) →
      (∀ (h' : Heap) (tk' : Nat) (b m : Int) (u3 u4 : Tok) (n1 : Nat), 0 ≤ b → 0 ≤ m → m < 2147483647 → Fr h₀ env.locals h' (fun y => if y = x then some (.int k t) else qM f c.p c.tp c.u y) → News h₀ env.locals h' (qL w f Z { c with b := b, m := m, u3 := u3, u4 := u4, n1 := n1 }) → R .next { s with heap := h', toks := tk' }) →
      (∀ (h' : Heap) (tk' : Nat) (b m : Int) (u3 u4 r3 : Tok) (n1 nv1 nv2 : Nat), 0 ≤ b → 0 ≤ m → m < 2147483647 → Fr h₀ env.locals h' (fun y => if y = x then some (.int k t) else qM f c.p c.tp c.u y) → News h₀ env.locals h' (qL w f Z { c with b := b, m := m, u3 := u3, u4 := u4, n1 := n1, r3 := r3, nv1 := nv1, nv2 := nv2, oc := c.oc - s1, v1 := v1, v2 := v2, xs := xs }) → R .next { s with heap := h', toks := tk' }) →
      wpAny (model prog w) A (exec st env) R E { s with heap := h, toks := tk })
    (turn : ∀ (k : Int) (t : Tok) (h : Heap) (tk : Nat) (Z : List (Addr × Obj)) (c : QS) (R : Flow → Shared → Prop),
      0 ≤ k → k < 15 → qA f Z → (∀ p ∈ f.fix, p ∈ Z) → (∀ p ∈ c.tups, p ∈ Z) → QJ f c k →
      Fr h₀ env.locals h (fun y => if y = x then some (.int k t) else qM f c.p c.tp c.u y) → News h₀ env.locals h (qL w f Z c) →
      QR w f c Z k h₀ env.locals s R →
      wpAny (model prog w) A (execs rest env) R E { s with heap := h, toks := tk })
    (done : ∀ (h : Heap) (tk : Nat) (Z : List (Addr × Obj)) (c : QS),
      (∀ p ∈ f.fix, p ∈ Z) → (∀ p ∈ c.tups, p ∈ Z) → QJ f c n → Fr h₀ env.locals h (qM f c.p c.tp c.u) → News h₀ env.locals h (qL w f Z c) → Q .next { s with heap := h, toks := tk }) :
    wpAny (model prog w) A (pyIter (.ref r)) (fun it s₂ => LoopAtV prog w A h₀ env x (st :: rest) Q E it s₂) E s := by
  refine queue_loop f c₀ hh hr hsmall hsz F N hm hn hj ht₀ hA hlt ?_ done
  intro k t h tk Z c R hk0 hk1 hZ hfz hTZ hJ F₁ N₁ hR
  refine execs_cut (QCut w f c Z k h₀ env.locals x t s) ?_ ?_
  · have T := Two.of hJ.t1 hJ.t2
    have l3 := hJ.len
    generalize hx : c.xs = xq at T l3
    generalize h1 : c.v1 = vq1 at T
    generalize h2 : c.v2 = vq2 at T
    cases T with
    | nil =>
      refine turnN k t h tk Z c _ h1 h2 hZ hJ.hb hJ.hm hJ.hm' F₁ N₁ ?_
      intro h' tk' b' m' u3 u4 n1 hb hm hm' F' N'
      exact ⟨rfl, .mk h' tk' { c with b := b', m := m', u3 := u3, u4 := u4, n1 := n1 } rfl rfl rfl rfl F' N' (hJ.mid hb hm hm')⟩
    | @cons a1 a2 s1 i1 w1 w2 w3 w4 c1 c2 vs1 vs2 xs m1 m2 r1 r2 =>
      have sub : ∀ p ∈ (a1, tupObj s1 i1 w1 w2 c1) :: (a2, tupObj s1 i1 w3 w4 c2) :: Z, p ∈ Z :=
        List.forall_mem_cons.mpr ⟨hTZ _ m1, List.forall_mem_cons.mpr ⟨hTZ _ m2, fun _ hp => hp⟩⟩
      have b := len20 l3 (by omega)
      refine turnC k t h tk Z c a1 a2 s1 i1 w1 w2 w3 w4 c1 c2 vs1 vs2 xs _ h1 h2 (qA_more hZ sub) hJ.hb hJ.hm hJ.hm' (r1.length ▸ b) (r2.length ▸ b) ((Tups.cons m2 r2).mono hTZ) F₁ (qL_sub N₁ sub) ?_ ?_
      · intro h' tk' b' m' u3 u4 n1 hb hm hm' F' N'
        exact ⟨rfl, .mk h' tk' { c with b := b', m := m', u3 := u3, u4 := u4, n1 := n1 } rfl rfl rfl rfl F' N' (hJ.mid hb hm hm')⟩
      · intro h' tk' b' m' u3 u4 r3 n1 nv1 nv2 hb hm hm' F' N'
        exact ⟨rfl, .mk h' tk' { c with b := b', m := m', u3 := u3, u4 := u4, n1 := n1, r3 := r3, nv1 := nv1, nv2 := nv2, oc := c.oc - s1, v1 := vs1, v2 := vs2, xs := xs } rfl rfl rfl rfl F' N' (hJ.pop h1 h2 hx hb hm hm')⟩
  · rintro s' ⟨h', tk', c', e1, e2, e3, e4, F', N', hJ'⟩
    rw [← e1, ← e2, ← e3] at F'
    refine turn k t h' tk' Z c' R hk0 (by omega) hZ hfz (by rw [e4]; exact hTZ) hJ' F' N' ?_
    intro fl h'' tk'' m'' nw c'' N'' hfl ht hq hnw hoff hJ'' F''
    exact hR fl h'' tk'' m'' nw c'' hfl (by rw [ht, e4]) hq hnw hoff hJ'' F'' N''
end
end
section
open PySem PySem.W PySem.Calls PyProof.Rows
set_option maxRecDepth 100000
set_option linter.unusedVariables false
section
variable {w : World} {mean : ExcName → Option Value} {mg mb : Str → Option Value} {dp un : Nat} {gd : Option (List Code)} {cn : Str} {cs : Scope} {a : Addr} {ccd : Value} {cl : List (Str × Addr)} {outer : List Env} {A₀ : Around} {base h₀ : Heap} {L : Addr} {m₀ : Str → Option Value} {s : Shared} {Q E : Value → Shared → Prop}
  {news : List (Addr × Obj)} {g : Obj → List (Addr × Obj)}
/-- one of a list drawn -/
theorem one_u {sa ta : Addr} {b m : Int} {t2 t3 : Tok} {n n2 : Nat} {vs : List Value} {ns : List Int}
    (B : Below A₀ base outer h₀) (F : Fr h₀ L s.heap m₀) (X : (hd.heap_39 w.params).In h₀) (N : News h₀ L s.heap news) (T : Top hd.view_39 (looseW hd.view_39 [Str.ofString "SettingError"]) mean mg mb h₀) (hk : cs.kind = .function)
    (U : UpdF sa (listOf #[.int b t2, .int m t3] n) news g) (hta : (ta, listOf vs.toArray n2) ∈ news) (hne : @Ne Nat ta sa) (hi : IntsAre vs ns)
    (hb : 0 ≤ b) (hm : 0 ≤ m) (hm' : m < 2147483647) (hl : 0 < ns.length) (hl' : ns.length < 1000)
    (hd : dp + 3 < recursionLimit) (hu : un + 24 < cLine)
    (ret : ∀ (v b' m' : Int) (t1' t2' t3' : Tok) (n' : Nat) h' tk', v ∈ ns → 0 ≤ b' → 0 ≤ m' → m' < 2147483647 → Fr h₀ L h' m₀ → News h₀ L h' (g (listOf #[.int b' t2', .int m' t3'] n')) → Q (.int v t1') { s with heap := h', toks := tk' }) :
    wpAny (model PySem.Challenge.rw_pc0359_01.row.prog w) (ktrTop dp un gd cn cs L a ccd cl outer) (call (.ref 194) [.ref sa, .ref ta]) Q E s :=
  claim_use (one_m U hta hne hi hb hm hm' hl hl') B F X N T hk hd hu fun r n h' tk' hr F' N' => by
    unfold pickRetM at hr
    obtain ⟨v, b', m', t1', t2', t3', n', rfl, hv, k1, k2, k3, rfl⟩ := hr
    exact ret v b' m' t1' t2' t3' n' h' tk' hv k1 k2 k3 F' N'

/-- the same; the list it was drawn from is forgotten -/
theorem one_d {sa ta : Addr} {b m : Int} {t2 t3 : Tok} {n n2 : Nat} {vs : List Value} {ns : List Int}
    (B : Below A₀ base outer h₀) (F : Fr h₀ L s.heap m₀) (X : (hd.heap_39 w.params).In h₀) (N : News h₀ L s.heap ((ta, listOf vs.toArray n2) :: news)) (T : Top hd.view_39 (looseW hd.view_39 [Str.ofString "SettingError"]) mean mg mb h₀) (hk : cs.kind = .function)
    (U : UpdF sa (listOf #[.int b t2, .int m t3] n) news g) (hne : @Ne Nat ta sa) (hi : IntsAre vs ns)
    (hb : 0 ≤ b) (hm : 0 ≤ m) (hm' : m < 2147483647) (hl : 0 < ns.length) (hl' : ns.length < 1000)
    (hd : dp + 3 < recursionLimit) (hu : un + 24 < cLine)
    (ret : ∀ (v b' m' : Int) (t1' t2' t3' : Tok) (n' : Nat) h' tk', v ∈ ns → 0 ≤ b' → 0 ≤ m' → m' < 2147483647 → Fr h₀ L h' m₀ → News h₀ L h' (g (listOf #[.int b' t2', .int m' t3'] n')) → Q (.int v t1') { s with heap := h', toks := tk' }) :
    wpAny (model PySem.Challenge.rw_pc0359_01.row.prog w) (ktrTop dp un gd cn cs L a ccd cl outer) (call (.ref 194) [.ref sa, .ref ta]) Q E s :=
  one_u B F X N T hk (.tail hne U) (.head _) hne hi hb hm hm' hl hl' hd hu fun v b' m' t1' t2' t3' n' h' tk' hv k1 k2 k3 F' N' => ret v b' m' t1' t2' t3' n' h' tk' hv k1 k2 k3 F' fun p hp => N' p (.tail _ hp)
end
end
section
open PySem PySem.W PySem.Calls PyProof.Rows
set_option maxRecDepth 100000
set_option linter.unusedVariables false
noncomputable def queueDef : List Stmt × Scope := match PySem.Challenge.pw_pc0359_01.main.body.reverse with
  | _ :: _ :: .FunctionDef _ _ body _ _ _ scope _ _ _ :: _ => (body, scope)
  | _ => ([], { kind := .function, names := [], isGenerator := false, isCoroutine := false })
noncomputable def queueBody : List Stmt := match queueDef.1 with
  | [_, .For _ _ body _ _, _] => body
  | _ => []
noncomputable def queueScope : Scope := queueDef.2
set_option maxHeartbeats 40000000 in
theorem qturn_ok (w : World) {mean : ExcName → Option Value} {mg mb : Str → Option Value} {dp un : Nat} {gd : Option (List Code)} {cn : Str} {a : Addr} {ccd : Value} {cl : List (Str × Addr)} {outer : List Env} {A₀ : Around} {base h₀ : Heap} {L : Addr} {s : Shared} {R : Flow → Shared → Prop} {E : Value → Shared → Prop}
    (scope : Scope) (hsc : scope = queueScope) (st : Stmt) (body : List Stmt) (hbd : st :: body = queueBody) (f : QF) (c : QS) {Z : List (Addr × Obj)} {k : Int} {t : Tok} {h : Heap} {tk : Nat} {dc : Addr} {low high most : Int} {j1 j2 j3 t1 t2 t3 u5 u6 u7 : Tok} {n2 : Nat}
    (B : Below A₀ base outer h₀) (X : (hd.heap_39 w.params).In h₀) (T : Top hd.view_39 (looseW hd.view_39 [Str.ofString "SettingError"]) mean mg mb h₀) (hd : dp + 11 < recursionLimit) (hu : un + 90 < cLine)
    (F : Fr h₀ L h (fun y => if y = Str.ofString "turn" then some (.int k t) else qM f c.p c.tp c.u y)) (N : News h₀ L h (qL w f Z c))
    (hs0 : 0 ≤ f.shift) (hs1 : f.shift < 4) (h0 : 0 ≤ low) (h1 : low < high) (h2 : high < 1000) (h3 : 0 ≤ most) (h4 : most < 1000) (hr0 : 20 ≤ f.room) (hr1 : f.room < 50)
    (hc : (f.c, instObj 120 dc) ∈ Z) (hdc : (dc, curveObj w j1 j2 j3 low t1 high t2 most t3) ∈ Z) (hba : (f.ba, ({ cls := .type "tuple", data := .seq #[.int low u5, .int high u6, .int most u7] n2 } : Obj)) ∈ Z) (hn1 : @Ne Nat f.c dc)
    (hk0 : 0 ≤ k) (hk1 : k < 15) (hA : qA f Z) (hTZ : ∀ p ∈ c.tups, p ∈ Z) (hJ : QJ f c k)
    (hR : QR w f c Z k h₀ L s R) :
    wpAny (model PySem.Challenge.rw_pc0359_01.row.prog w) (ktrTop dp un gd cn scope L a ccd cl outer) (execs body (envX cn scope L a ccd cl)) R E { s with heap := h, toks := tk } := by
  conv at hsc => rhs; whnf
  conv at hbd => rhs; whnf
  obtain ⟨_, rfl⟩ := List.cons.inj hbd
  subst hsc
  obtain ⟨sa, rw, dr, th, ow, x, dx, tl, cu, ba, shift, room, tsh, trm, fix⟩ := f
  obtain ⟨b, m, p, oc, dd, u3, u4, kA, kB, tS, tP, tp, k1, k2, k3, k4, k5, r1, r2, r3, r4, n1, nv1, nv2, nt, v1, v2, tv, tlv, xs, tups, u⟩ := c
  have hb2 : 0 ≤ b := hJ.hb
  have hm2 : 0 ≤ m := hJ.hm
  have hm2' : m < 2147483647 := hJ.hm'
  have hpp : 0 ≤ p := hJ.p0
  have hpb : p < 1000 := hJ.pbound hs0 hs1 hr1
  have hlb1 : v1.length < 20 := (hJ.bounds hk1).1
  have hlb2 : v2.length < 20 := (hJ.bounds hk1).2.1
  have hlb3 : tv.length < 20 := (hJ.bounds hk1).2.2
  have hor : oc ≤ room := hJ.hroom
  have hoc0 : 0 ≤ oc := hJ.hoc0
  have hoc : oc = tot xs := hJ.hoc
  have htd : IntsAre tv tlv := hJ.told
  have hd0 : 0 ≤ dd := hJ.d0
  have hd1 : dd ≤ k := hJ.d1
  have ht2 : Tups Z v2 xs := hJ.t2.mono hTZ
  have hs0' : 0 ≤ shift := hs0
  have hs1' : shift < 4 := hs1
  have hr0' : 20 ≤ room := hr0
  have hr1' : room < 50 := hr1
  have sub : ∀ p ∈ (cu, instObj 120 dc) :: (dc, curveObj w j1 j2 j3 low t1 high t2 most t3) :: (ba, ({ cls := .type "tuple", data := .seq #[.int low u5, .int high u6, .int most u7] n2 } : Obj)) :: Z, p ∈ Z := List.forall_mem_cons.mpr ⟨hc, List.forall_mem_cons.mpr ⟨hdc, List.forall_mem_cons.mpr ⟨hba, fun _ h => h⟩⟩⟩
  have hAp := qA_more hA sub
  have N3 := qL_sub N sub
  have hn1' : @Ne Nat cu dc := hn1
  have hxd : @Ne Nat x dx := fun e => hAp.2.2.2.2.2.1 (e ▸ List.Mem.head _)
  have hrd : @Ne Nat rw dr := fun e => hAp.2.2.2.1 (e ▸ List.Mem.head _)
  clear hA N sub hn1 hs0 hs1 hr0 hr1
  dsimp only [qA, qL, qM, List.map_cons] at hAp N3 F
  k_with_none
  w_top off
  k_with "om" => (first | k_extra "proj" | lia | omega (config := {}))
  k_with "pj" => (first | assumption | exact And.left (by assumption) | exact And.left (And.right (by assumption)) | exact And.left (And.right (And.right (by assumption))) | exact And.left (And.right (And.right (And.right (by assumption)))) | exact And.left (And.right (And.right (And.right (And.right (by assumption))))) | exact And.left (And.right (And.right (And.right (And.right (And.right (by assumption)))))) | exact And.left (And.right (And.right (And.right (And.right (And.right (And.right (by assumption))))))) | exact And.left (And.right (And.right (And.right (And.right (And.right (And.right (And.right (by assumption)))))))) | exact And.left (And.right (And.right (And.right (And.right (And.right (And.right (And.right (And.right (by assumption))))))))) | exact And.left (And.right (And.right (And.right (And.right (And.right (And.right (And.right (And.right (And.right (by assumption)))))))))) | exact And.left (And.right (And.right (And.right (And.right (And.right (And.right (And.right (And.right (And.right (And.right (by assumption))))))))))) | exact And.left (And.right (And.right (And.right (And.right (And.right (And.right (And.right (And.right (And.right (And.right (And.right (by assumption)))))))))))) | exact And.left (And.right (And.right (And.right (And.right (And.right (And.right (And.right (And.right (And.right (And.right (And.right (And.right (by assumption))))))))))))) | exact And.left (And.right (And.right (And.right (And.right (And.right (And.right (And.right (And.right (And.right (And.right (And.right (And.right (And.right (by assumption)))))))))))))) | exact And.right (by assumption) | exact And.right (And.right (by assumption)) | exact And.right (And.right (And.right (by assumption))) | exact And.right (And.right (And.right (And.right (by assumption)))) | exact And.right (And.right (And.right (And.right (And.right (by assumption))))) | exact And.right (And.right (And.right (And.right (And.right (And.right (by assumption)))))) | exact And.right (And.right (And.right (And.right (And.right (And.right (And.right (by assumption))))))) | exact And.right (And.right (And.right (And.right (And.right (And.right (And.right (And.right (by assumption)))))))) | exact And.right (And.right (And.right (And.right (And.right (And.right (And.right (And.right (And.right (by assumption))))))))) | exact And.right (And.right (And.right (And.right (And.right (And.right (And.right (And.right (And.right (And.right (by assumption)))))))))) | exact And.right (And.right (And.right (And.right (And.right (And.right (And.right (And.right (And.right (And.right (And.right (by assumption))))))))))) | exact And.right (And.right (And.right (And.right (And.right (And.right (And.right (And.right (And.right (And.right (And.right (And.right (by assumption)))))))))))) | exact And.right (And.right (And.right (And.right (And.right (And.right (And.right (And.right (And.right (And.right (And.right (And.right (And.right (by assumption))))))))))))))
  k_with "proj" => (first
    | (with_reducible assumption)
    | ((with_reducible show @Ne Nat _ _); (with_reducible first
      | (refine Nat.ne_of_gt ?_; k_extra "pj")
      | (refine Nat.ne_of_lt ?_; k_extra "pj")
      | (refine Nat.ne_of_gt (Nat.lt_trans ?_ (by assumption)); k_extra "pj")
      | (refine Nat.ne_of_lt (Nat.lt_trans ?_ (by assumption)); k_extra "pj")
      | k_extra "pj"
      | (refine Ne.symm ?_; k_extra "pj")
      | (first | exact And.left (And.left (by assumption)) | exact And.left (And.right (And.left (by assumption))) | exact And.right (And.right (And.left (by assumption))) | exact And.left (And.left (And.right (by assumption))) | exact And.left (And.right (And.left (And.right (by assumption)))) | exact And.right (And.right (And.left (And.right (by assumption)))) | exact And.left (And.left (And.right (And.right (by assumption)))) | exact And.left (And.right (And.left (And.right (And.right (by assumption))))) | exact And.right (And.right (And.left (And.right (And.right (by assumption))))) | exact And.left (And.left (And.right (And.right (And.right (by assumption))))) | exact And.left (And.right (And.left (And.right (And.right (And.right (by assumption)))))) | exact And.right (And.right (And.left (And.right (And.right (And.right (by assumption)))))) | exact And.left (And.left (And.right (And.right (And.right (And.right (by assumption)))))) | exact And.left (And.right (And.left (And.right (And.right (And.right (And.right (by assumption))))))) | exact And.right (And.right (And.left (And.right (And.right (And.right (And.right (by assumption))))))) | exact And.left (And.left (And.right (And.right (And.right (And.right (And.right (by assumption))))))) | exact And.left (And.right (And.left (And.right (And.right (And.right (And.right (And.right (by assumption)))))))) | exact And.right (And.right (And.left (And.right (And.right (And.right (And.right (And.right (by assumption)))))))))
      | (refine Ne.symm ?_; (first | exact And.left (And.left (by assumption)) | exact And.left (And.right (And.left (by assumption))) | exact And.right (And.right (And.left (by assumption))) | exact And.left (And.left (And.right (by assumption))) | exact And.left (And.right (And.left (And.right (by assumption)))) | exact And.right (And.right (And.left (And.right (by assumption)))) | exact And.left (And.left (And.right (And.right (by assumption)))) | exact And.left (And.right (And.left (And.right (And.right (by assumption))))) | exact And.right (And.right (And.left (And.right (And.right (by assumption))))) | exact And.left (And.left (And.right (And.right (And.right (by assumption))))) | exact And.left (And.right (And.left (And.right (And.right (And.right (by assumption)))))) | exact And.right (And.right (And.left (And.right (And.right (And.right (by assumption)))))) | exact And.left (And.left (And.right (And.right (And.right (And.right (by assumption)))))) | exact And.left (And.right (And.left (And.right (And.right (And.right (And.right (by assumption))))))) | exact And.right (And.right (And.left (And.right (And.right (And.right (And.right (by assumption))))))) | exact And.left (And.left (And.right (And.right (And.right (And.right (And.right (by assumption))))))) | exact And.left (And.right (And.left (And.right (And.right (And.right (And.right (And.right (by assumption)))))))) | exact And.right (And.right (And.left (And.right (And.right (And.right (And.right (And.right (by assumption))))))))))))
    | ((with_reducible show @LT.lt Nat _ _ _); (with_reducible k_extra "pj"))
    | ((with_reducible show @LE.le Nat _ _ _); (with_reducible first | exact Nat.le_refl _ | (refine Nat.le_of_lt ?_; k_extra "pj")))
    | ((with_reducible refine And.intro ?_ ?_) <;> omega)
    | (with_reducible (first | assumption | exact And.left (by assumption) | exact And.left (And.right (by assumption)) | exact And.left (And.right (And.right (by assumption))) | exact And.right (by assumption) | exact And.right (And.right (by assumption)))))
  k_with "updF" => k_dflt (rename Ap _ _ => hAp9; first | exact upd0 hAp9 | exact upd1 hAp9 | exact upd2 hAp9 | exact upd3 hAp9 | exact upd4 hAp9 | exact upd5 hAp9 | exact upd6 hAp9 | exact upd7 hAp9 | exact upd8 hAp9 | exact upd9 hAp9 | exact upd10 hAp9 | exact upd11 hAp9 | exact upd12 hAp9 | exact upd13 hAp9 | exact upd14 hAp9 | exact upd15 hAp9)
  k_with "upd" => k_dflt (rename Ap _ _ => hAp9; first | exact upe0 hAp9 | exact upe1 hAp9 | exact upe2 hAp9 | exact upe3 hAp9 | exact upe4 hAp9 | exact upe5 hAp9 | exact upe6 hAp9 | exact upe7 hAp9 | exact upe8 hAp9 | exact upe9 hAp9 | exact upe10 hAp9 | exact upe11 hAp9 | exact upe12 hAp9 | exact upe13 hAp9 | exact upe14 hAp9 | exact upe15 hAp9)
  k_with "lt" => ((rename (∀ p ∈ _, _ < _) => hL9); (try (rename Ap _ _ => hAp9; have hRaw := hL9; have hAp := Ap.push hAp9 hL9 rfl)); replace hL9 := allLt_of hL9; dsimp only [AllLt] at hL9)
  k_with "lt2" => ((with_reducible rename @LT.lt Nat _ _ _ => hL8); replace hL8 := ltN hL8; (try (rename Ap _ _ => hAp9; rename (∀ p ∈ _, _ < _) => hRaw9; have hAp := Ap.push2 hAp9 hRaw9 rfl hL8)))
  k_with "all" => (first | exact allLt_ne (by assumption) (by omega) | exact lt_neG (by assumption) (by omega))
  k_with "allmem" => (first | (with_reducible exact List.forall_mem_nil _) | ((with_reducible refine List.forall_mem_cons.mpr (And.intro ?_ ?_)); (focus k_mem); walk_at "allmem") | (intro p hp; (repeat (first | exact hp | apply List.mem_cons_of_mem)); done))
  k_with "storeName int" => k_dflt (refine' store_int ?gqF ?gqN ?_ ?gqa ?gqb; (case gqF => k_asm); (case gqN => k_asm); (case gqa => rfl); (case gqb => rfl); k_whole; intro t' h' tk' F' N'; (try k_sweep))
  k_with "storeName" => k_dflt (refine' store_any ?gqF ?gqN ?_ ?gqa ?gqb; (case gqF => k_asm); (case gqN => k_asm); (case gqa => rfl); (case gqb => rfl); k_whole; intro h' tk' F' N'; (try k_sweep))
  k_with "newTuple" => (k_dflt (first
    | (refine' tup_2 ?gqF ?gqN ?_; (case gqF => k_asm); (case gqN => k_asm); k_whole; intro t1' t2' D' h' tk' F' N' l1)
    | (refine' tup_3 ?gqF ?gqN ?_; (case gqF => k_asm); (case gqN => k_asm); k_whole; intro t1' t2' t3' D' h' tk' F' N' l1)
    | (refine' tup_any ?gqF ?gqN ?_ ?gqz; (case gqF => k_asm); (case gqN => k_asm); (case gqz => exact Nat.le_of_ble_eq_true rfl); k_whole; intro D' h' tk' F' N' l1)); (try k_lt l1); (try k_sweep))
  k_with "newList" => (k_dflt (first
    | (refine' list_4 ?gqF ?gqN ?_; (case gqF => k_asm); (case gqN => k_asm); k_whole; intro t1' t2' t3' t4' D' h' tk' F' N' l1)
    | (refine' list_1 ?gqF ?gqN ?_; (case gqF => k_asm); (case gqN => k_asm); k_whole; intro t1' D' h' tk' F' N' l1)
    | (refine' list_any ?gqF ?gqN ?_ ?gqz; (case gqF => k_asm); (case gqN => k_asm); (case gqz => exact Nat.le_of_ble_eq_true rfl); k_whole; intro D' h' tk' F' N' l1)); (try k_lt l1); (try k_sweep))
  k_with "exec Assign cons Call" => k_fold
  k_with "exec Assign cons Tuple" => k_fold
  k_with "exec If BoolOp cons nil" => k_fold
  k_with "exec If UnaryOp cons nil" => k_fold
  k_with "exec If Compare cons nil" => k_fold
  k_with "exec Assign cons BinOp" => k_fold
  k_with "exec Expr Call" => k_fold
  k_with "exec Assign cons Compare" => k_fold
  k_with "exec Assign cons Subscript" => k_fold
  k_with "exec If Name cons nil" => k_fold
  k_with "gx" => k_dflt (first
    | exact gv_int
    | (refine' gv_name ?gqF ?gqv ?gqa ?gqb ?gqc; (case gqF => k_asm); (case gqa => rfl); (case gqb => rfl); (case gqv => exact @rfl _ (some _)); (case gqc => decide))
    | (refine' gv_cell ?gqN ?gqc ?gqm ?gqd ?gqa ?gqb ?gqe; (case gqa => rfl); (case gqb => rfl); (case gqN => k_asm); (case gqc => rfl); (case gqm => k_mem); (case gqd => k_asm); (case gqe => decide))
    | (refine' gv_glob ?gqF ?gqX ?gqT ?gqe ?gqa ?gqb ?gqc; (case gqF => k_asm); (case gqX => k_asm); (case gqT => k_asm); (case gqa => rfl); (case gqb => rfl); (case gqe => k_is); (case gqc => decide))
    | (refine' gv_add ?gqg ?gqh; (case gqg => k_extra "gx"); (case gqh => k_extra "gx"))
    | (refine' gv_sub ?gqg ?gqh; (case gqg => k_extra "gx"); (case gqh => k_extra "gx"))
    | (refine' gv_attr ?gqg ?gqk1 ?gqk2 ?gqk3 ?gqk4 ?gqk5 ?gqk6 ?gqk7 ?gqk8 ?gqk9 ?gqe; (case gqg => k_extra "gx"); (case gqk1 => k_asm); (case gqk2 => k_asm); (case gqk3 => k_inst); (case gqk4 => k_is); (case gqk5 => k_is); (case gqk6 => k_is); (case gqk7 => k_is); (case gqk8 => k_get); (case gqk9 => k_handed); (case gqe => with_unfolding_all rfl)))
  k_with "gl" => k_dflt (first
    | exact gl_nil
    | (refine' gl_cons ?gqg ?gqh ?gqe; (case gqe => rfl); (case gqg => k_extra "gx"); (case gqh => k_extra "gl")))
  k_with "callWith ref" => (k_dflt (refine' callWith_gv ?gqX ?gqF ?gqk ?gqg ?_ ?gqe ?gqp; (case gqX => k_asm); (case gqF => k_asm); (case gqk => k_is); (case gqe => rfl); (case gqp => rfl); (case gqg => k_extra "gl"); k_whole); (try dsimp only [List.nil_append, List.cons_append]))
  k_with "eval Call Name cons nil" => k_dflt (refine' call_gv ?gqX ?gqF ?gqf ?gqk ?gqg ?_ ?gqc ?gqe ?gqp; (case gqX => k_asm); (case gqF => k_asm); (case gqc => rfl); (case gqe => rfl); (case gqp => rfl); (case gqf => k_extra "gx"); (case gqk => k_is); (case gqg => k_extra "gl"); k_whole)
  k_with "eval Name" => k_dflt (refine' nameX_L ?gqF ?gqv ?_ ?gqa ?gqb ?gqc; (case gqF => k_asm); (case gqa => rfl); (case gqb => rfl); (case gqv => exact @rfl _ (some _)); (case gqc => decide); k_whole)
  k_with "spliced" => (k_dflt (refine' spliced_gv ?gqg ?_; (case gqg => k_extra "gl"); k_whole); (try dsimp only [List.nil_append, List.cons_append]))
  k_with "eval BinOp" => k_dflt (refine' eval_gv ?gqg ?_; (case gqg => k_extra "gx"); k_whole)
  k_with "eval Attribute Name" => k_dflt (refine' eval_gv ?gqg ?_; (case gqg => k_extra "gx"); k_whole)
  k_with "cmp" => k_dflt (first
    | ((with_reducible show wpAny _ _ (isTrue (Expr.Compare _ [CmpOp.Lt] [_] _) _ _) _ _ _); refine' ts_lt ?gqg ?gqh ?_ ?gqm; (case gqm => with_unfolding_all rfl); (case gqg => k_extra "gx"); (case gqh => k_extra "gx"); k_whole)
    | ((with_reducible show wpAny _ _ (isTrue (Expr.Compare _ [CmpOp.LtE] [_] _) _ _) _ _ _); refine' ts_le ?gqg ?gqh ?_ ?gqm; (case gqm => with_unfolding_all rfl); (case gqg => k_extra "gx"); (case gqh => k_extra "gx"); k_whole)
    | ((with_reducible show wpAny _ _ (isTrue (Expr.Compare _ [CmpOp.Gt] [_] _) _ _) _ _ _); refine' ts_gt ?gqg ?gqh ?_ ?gqm; (case gqm => with_unfolding_all rfl); (case gqg => k_extra "gx"); (case gqh => k_extra "gx"); k_whole)
    | ((with_reducible show wpAny _ _ (isTrue (Expr.Compare _ [CmpOp.GtE] [_] _) _ _) _ _ _); refine' ts_ge ?gqg ?gqh ?_ ?gqm; (case gqm => with_unfolding_all rfl); (case gqg => k_extra "gx"); (case gqh => k_extra "gx"); k_whole)
    | ((with_reducible show wpAny _ _ (isTrue (Expr.Compare _ [CmpOp.Eq] [_] _) _ _) _ _ _); refine' ts_eq ?gqg ?gqh ?_ ?gqm; (case gqm => with_unfolding_all rfl); (case gqg => k_extra "gx"); (case gqh => k_extra "gx"); k_whole)
    | ((with_reducible show wpAny _ _ (isTrue (Expr.Compare _ [CmpOp.NotEq] [_] _) _ _) _ _ _); refine' ts_ne ?gqg ?gqh ?_ ?gqm; (case gqm => with_unfolding_all rfl); (case gqg => k_extra "gx"); (case gqh => k_extra "gx"); k_whole))
  k_with "isTrue Compare Name" => k_extra "cmp"
  k_with "isTrue Compare Constant" => k_extra "cmp"
  k_with "isTrue Compare BinOp" => k_extra "cmp"
  k_with "isTrue Compare Attribute" => k_extra "cmp"
  k_with "enter" => (refine' code_any ?k1 ?k2 ?k3 ?k4 ?k5 ?kA ?kF ?kK ?k6 ?k7 ?k8 ?k9 ?kB ?_ ?c2 ?c3 ?c4 ?c5; (case kA => exact rfl); (case kF => exact rfl); (case kK => first | exact rfl | assumption); (case k1 => k_asm); (case k2 => k_asm); (case k3 => k_asm); (case k4 => k_asm); (case k5 => k_asm); (case k6 => k_is); (case k7 => k_is); (case k8 => k_room); (case k9 => first | exact BindsTo.of_eq rfl | exact binds_K (by k_in) rfl (by k_is) rfl rfl rfl); (case c5 => decide); (case kB => exact locs rfl); (case c2 => exact rfl); (case c3 => exact rfl); (case c4 => exact rfl); k_whole; intro g' L' h' tk' FG' F' N' B' X' T'; (try dsimp only); (try k_lift B'); (try k_fold))
  k_with "clsnew" => k_dflt (refine' call_cls ?k1 ?k2 ?k3 ?k4 ?k5 ?k6 ?_; (case k1 => k_asm); (case k2 => k_asm); (case k3 => k_asm); (case k4 => k_is); (case k5 => k_is); (case k6 => k_is); k_whole; intro x' d' h' F' N' l1 l2; (try k_lt l1); (try k_lt2 l2); (try k_sweep); k_extra "enter")
  revert X; k_fill; intro X
  k_with "call builtin:list.append" => ((with_reducible show wpAny _ _ (call (Value.builtin _) [Value.ref _, _]) _ _ _); k_dflt (refine append_st (by k_asm) (by k_asm) (by k_updF) (by omega) ?_); intro h' n' F' N'; (try dsimp only at N'))
  k_with "call builtin:len" => ((with_reducible show wpAny _ _ (call (Value.builtin _) [Value.ref _]) _ _ _); k_dflt (refine len_st (by k_asm) (by k_mem) (by exact rfl) (by omega) ?_); intro t' tk')
  k_with "call builtin:sum" => ((with_reducible show wpAny _ _ (call (Value.builtin _) [Value.ref _]) _ _ _); k_dflt (refine sum_dr hoc (by exact rfl) (by k_asm) (by k_asm) (by assumption) ?_); intro h' tk' t' F' N'; (try dsimp only at N'))
  k_with "CompEnd" => (k_dflt (refine LCg.CompEnd.intro (by k_asm) (by k_asm) _ (fun p hp => hp) (by first | assumption | (simp only [LCg.Off3, and_true]; assumption)) (Or.inr ⟨_, by k_mem, by rfl, _, by rfl⟩) ⟨_, rfl, rfl⟩))
  k_with "SrcLP" => k_dflt (
    refine LCp.SrcLP.ledger (by rfl) (by k_asm) (by k_asm) (by k_mem) (by rw [PySem.sizeLine_eq, List.size_toArray]; omega) ?_
    intro g'
    refine sizes_comp (Z := Z) ht2 (by walk_at "allmem") (by rfl) (fun a' b' t' u' ys' I' oI' C' oC' D' m' h' tk' E' hC' hx' hx2' F' N' off' ne' => ?_) (fun ys' hI' => ?_)
    all_goals (try (simp only [LCg.Off3, and_true] at off')))
  k_with "compareOp LtE int int" => ((with_reducible show wpAny _ _ (compareOp CmpOp.LtE (Value.int _ _) (Value.int _ _)) _ _ _); k_dflt (first
    | refine le_true (Int.le_trans (QJ.low hJ (by with_reducible assumption) (by with_reducible assumption)) (And.left (by with_reducible assumption))) ?_
    | refine le_true (And.right (QJ.seen hJ hs0' hs1' (by assumption) (by with_reducible assumption))) ?_))
  k_with "compareOp NotEq int int" => ((with_reducible show wpAny _ _ (compareOp CmpOp.NotEq (Value.int _ _) (Value.int _ _)) _ _ _); k_dflt (refine ne_false (by assumption) ?_))
  k_with "compareOp NotEq bool bool" => ((with_reducible show wpAny _ _ (compareOp CmpOp.NotEq (Value.bool _) (Value.bool _)) _ _ _); (first
    | (with_reducible refine neb_false rfl ?_)
    | (with_reducible refine neb_false (tt_le (by omega)) ?_)
    | (with_reducible refine neb_false (ff_le (by omega)) ?_)))
  k_with "call ref" => k_dflt (
    (with_reducible show wpAny _ _ (call (Value.ref 187) _) _ _ _)
    refine' take_use ?k1 ?k2 ?k3 ?k4 ?k5 ?kK ?kU ?hb ?hm ?hm' ?ht ?ht' ?kd ?ku ?_
    (case k1 => k_asm)
    (case k2 => k_asm)
    (case k3 => k_asm)
    (case k5 => k_asm)
    (case k4 => k_asm)
    (case kU => k_updF)
    (case hb => assumption)
    (case hm => assumption)
    (case hm' => assumption)
    (case ht => decide)
    (case ht' => decide)
    (case kK => first | exact rfl | assumption)
    (case kd => first | exact room1 (by assumption) (by decide) | exact room2 (by assumption) (by decide) | ktr_room)
    (case ku => first | exact room1 (by assumption) (by decide) | exact room2 (by assumption) (by decide) | ktr_units)
    intro b9 m9 d9 t91 t92 t93 n9 h9 tk9 hd91 hd92 hb9 hm91 hm92 F9 N9
    (try dsimp only at N9)
    (try dsimp only)
    (try k_fold)
    skip)
  k_with "call ref" => k_dflt (
    (with_reducible show wpAny _ _ (call (Value.ref 194) _) _ _ _)
    refine' one_d ?k1 ?k2 ?k3 ?k4 ?k5 ?kK ?kU ?kn ?ki ?hb ?hm ?hm' ?ht ?ht' ?kd ?ku ?_
    (case k1 => k_asm)
    (case k2 => k_asm)
    (case k3 => k_asm)
    (case k5 => k_asm)
    (case k4 => k_asm)
    (case kU => (rename Ap _ _ => hAp8; have hAp7 := Ap.pop hAp8; k_updF))
    (case kn => k_ne)
    (case ki => l_ints)
    (case hb => assumption)
    (case hm => assumption)
    (case hm' => assumption)
    (case ht => exact Nat.le_of_ble_eq_true rfl)
    (case ht' => exact Nat.le_of_ble_eq_true rfl)
    (case kK => first | exact rfl | assumption)
    (case kd => first | exact room1 (by assumption) (by decide) | exact room2 (by assumption) (by decide) | ktr_room)
    (case ku => first | exact room1 (by assumption) (by decide) | exact room2 (by assumption) (by decide) | ktr_units)
    intro v9 b9 m9 t91 t92 t93 n9 h9 tk9 hv9 hb9 hm91 hm92 F9 N9
    (rename Ap _ _ => hAp8; replace hAp8 := Ap.pop hAp8)
    (try have hv8 := one_size hv9)
    clear hv9
    (try dsimp only at N9)
    (try dsimp only)
    (try k_fold)
    skip)
  k_with "call ref" => k_dflt (
    (with_reducible show wpAny _ _ (call (Value.ref 82) _) _ _ _)
    refine' told_u ?k1 ?k2 ?k3 ?k4 ?k5 ?kK ?kU ?kx ?kn ?h0 ?h1 ?h2 ?h3 ?h4 ?h5 ?kd ?ku ?_
    (case k1 => k_asm)
    (case k2 => k_asm)
    (case k3 => k_asm)
    (case k5 => k_asm)
    (case k4 => k_asm)
    (case kU => k_updF)
    (case kx => k_mem)
    (case kn => k_ne)
    (case h0 => omega)
    (case h1 => omega)
    (case h2 => omega)
    (case h3 => omega)
    (case h4 => omega)
    (case h5 => omega)
    (case kK => first | exact rfl | assumption)
    (case kd => first | exact room1 (by assumption) (by decide) | exact room2 (by assumption) (by decide) | ktr_room)
    (case ku => first | exact room1 (by assumption) (by decide) | exact room2 (by assumption) (by decide) | ktr_units)
    intro q9 v9 t9 t92 h9 tk9 hq9 hv9 F9 N9
    (have hw9 := hv9.trans (congrArg (avgVal _) hq9))
    (have hs9 : 0 ≤ v9 ∧ v9 ≤ room := QJ.seen0 hJ hs0' hs1' hw9)
    (try dsimp only at N9)
    (try dsimp only)
    (try k_fold)
    skip)
  k_with "call ref" => k_dflt (
    (with_reducible show wpAny _ _ (call (Value.ref 199) _) _ _ _)
    refine' use_i (lshare_c ?h0 ?h1 ?h2 ?h3 ?h4 ?h5 ?h6) ?k1 ?k2 ?k3 ?k4 ?k5 ?kK ?kd ?ku ?_
    (case k1 => k_asm)
    (case k2 => k_asm)
    (case k3 => k_asm)
    (case k5 => k_asm)
    (case k4 => k_asm)
    (case h0 => omega)
    (case h1 => omega)
    (case h2 => omega)
    (case h3 => omega)
    (case h4 => omega)
    (case h5 => omega)
    (case h6 => omega)
    (case kK => first | exact rfl | assumption)
    (case kd => first | exact room1 (by assumption) (by decide) | exact room2 (by assumption) (by decide) | ktr_room)
    (case ku => first | exact room1 (by assumption) (by decide) | exact room2 (by assumption) (by decide) | ktr_units)
    intro v9 t9 h9 tk9 hv9 F9 N9
    (try dsimp only at N9)
    (try dsimp only)
    (try k_fold)
    skip)
  k_with "call ref" => k_dflt (
    (with_reducible show wpAny _ _ (call (Value.ref 117) _) _ _ _)
    refine' use_v (drops_cv ?hv ?hc ?hdc ?hn ?h0 ?h1 ?h2 ?h3 ?h4 ?h5 ?h6) ?k1 ?k2 ?k3 ?k4 ?k5 ?kK ?kd ?ku ?_
    (case k1 => k_asm)
    (case k2 => k_asm)
    (case k3 => k_asm)
    (case k5 => k_asm)
    (case k4 => k_asm)
    (case hv => assumption)
    (case hc => k_mem)
    (case hdc => k_mem)
    (case hn => k_ne)
    (case h0 => omega)
    (case h1 => omega)
    (case h2 => omega)
    (case h3 => omega)
    (case h4 => omega)
    (case h5 => omega)
    (case h6 => omega)
    (case kK => first | exact rfl | assumption)
    (case kd => first | exact room1 (by assumption) (by decide) | exact room2 (by assumption) (by decide) | ktr_room)
    (case ku => first | exact room1 (by assumption) (by decide) | exact room2 (by assumption) (by decide) | ktr_units)
    intro h9 tk9 F9 N9
    (try dsimp only at N9)
    (try dsimp only)
    (try k_fold)
    skip)
  k_steps
  all_goals (try dsimp only)
  all_goals (first
    | (refine stay_end hR hJ hs0' hs1' (news_sub (by k_asm) (by (dsimp only [qL]; walk_at "allmem"))) (by k_asm) (by assumption) (by assumption) (by assumption) (by assumption) (by first | exact .inl rfl | exact .inr rfl) (by first | exact .inl rfl | exact .inr rfl) ⟨⟨_, @rfl _ (some _)⟩, @rfl _ (some _), @rfl _ (some _), @rfl _ (some _), @rfl _ (some _), @rfl _ (some _), @rfl _ (some _), @rfl _ (some _), @rfl _ (some _), @rfl _ (some _)⟩)
    | (refine put_end hR hJ hs0' hs1' (news_sub (by k_asm) (by (dsimp only [qL]; walk_at "allmem"))) (by k_asm) (by assumption) (by assumption) (by assumption) (by assumption) ⟨⟨_, @rfl _ (some _)⟩, @rfl _ (some _), @rfl _ (some _), @rfl _ (some _), @rfl _ (some _), @rfl _ (some _), @rfl _ (some _), @rfl _ (some _), @rfl _ (some _), @rfl _ (some _)⟩ (by omega) (by omega) (by (refine allLt_ne ?_ (Nat.le_refl _); with_reducible (first | assumption | exact And.left (by assumption) | exact And.left (And.right (by assumption)) | exact And.left (And.right (And.right (by assumption))) | exact And.left (And.right (And.right (And.right (by assumption)))) | exact And.left (And.right (And.right (And.right (And.right (by assumption))))) | exact And.left (And.right (And.right (And.right (And.right (And.right (by assumption)))))) | exact And.left (And.right (And.right (And.right (And.right (And.right (And.right (by assumption))))))) | exact And.left (And.right (And.right (And.right (And.right (And.right (And.right (And.right (by assumption)))))))) | exact And.left (And.right (And.right (And.right (And.right (And.right (And.right (And.right (And.right (by assumption))))))))) | exact And.left (And.right (And.right (And.right (And.right (And.right (And.right (And.right (And.right (And.right (by assumption)))))))))) | exact And.left (And.right (And.right (And.right (And.right (And.right (And.right (And.right (And.right (And.right (And.right (by assumption))))))))))) | exact And.left (And.right (And.right (And.right (And.right (And.right (And.right (And.right (And.right (And.right (And.right (And.right (by assumption)))))))))))) | exact And.left (And.right (And.right (And.right (And.right (And.right (And.right (And.right (And.right (And.right (And.right (And.right (And.right (by assumption))))))))))))) | exact And.left (And.right (And.right (And.right (And.right (And.right (And.right (And.right (And.right (And.right (And.right (And.right (And.right (And.right (by assumption)))))))))))))) | exact And.left (And.right (And.right (And.right (And.right (And.right (And.right (And.right (And.right (And.right (And.right (And.right (And.right (And.right (And.right (by assumption))))))))))))))) | exact And.left (And.right (And.right (And.right (And.right (And.right (And.right (And.right (And.right (And.right (And.right (And.right (And.right (And.right (And.right (And.right (by assumption)))))))))))))))) | exact And.right (by assumption) | exact And.right (And.right (by assumption)) | exact And.right (And.right (And.right (by assumption))) | exact And.right (And.right (And.right (And.right (by assumption)))) | exact And.right (And.right (And.right (And.right (And.right (by assumption))))) | exact And.right (And.right (And.right (And.right (And.right (And.right (by assumption)))))) | exact And.right (And.right (And.right (And.right (And.right (And.right (And.right (by assumption))))))) | exact And.right (And.right (And.right (And.right (And.right (And.right (And.right (And.right (by assumption)))))))) | exact And.right (And.right (And.right (And.right (And.right (And.right (And.right (And.right (And.right (by assumption))))))))) | exact And.right (And.right (And.right (And.right (And.right (And.right (And.right (And.right (And.right (And.right (by assumption)))))))))) | exact And.right (And.right (And.right (And.right (And.right (And.right (And.right (And.right (And.right (And.right (And.right (by assumption))))))))))) | exact And.right (And.right (And.right (And.right (And.right (And.right (And.right (And.right (And.right (And.right (And.right (And.right (by assumption)))))))))))) | exact And.right (And.right (And.right (And.right (And.right (And.right (And.right (And.right (And.right (And.right (And.right (And.right (And.right (by assumption))))))))))))) | exact And.right (And.right (And.right (And.right (And.right (And.right (And.right (And.right (And.right (And.right (And.right (And.right (And.right (And.right (by assumption)))))))))))))) | exact And.right (And.right (And.right (And.right (And.right (And.right (And.right (And.right (And.right (And.right (And.right (And.right (And.right (And.right (And.right (by assumption)))))))))))))))))) (by (refine allLt_ne ?_ (Nat.le_refl _); with_reducible (first | assumption | exact And.left (by assumption) | exact And.left (And.right (by assumption)) | exact And.left (And.right (And.right (by assumption))) | exact And.left (And.right (And.right (And.right (by assumption)))) | exact And.left (And.right (And.right (And.right (And.right (by assumption))))) | exact And.left (And.right (And.right (And.right (And.right (And.right (by assumption)))))) | exact And.left (And.right (And.right (And.right (And.right (And.right (And.right (by assumption))))))) | exact And.left (And.right (And.right (And.right (And.right (And.right (And.right (And.right (by assumption)))))))) | exact And.left (And.right (And.right (And.right (And.right (And.right (And.right (And.right (And.right (by assumption))))))))) | exact And.left (And.right (And.right (And.right (And.right (And.right (And.right (And.right (And.right (And.right (by assumption)))))))))) | exact And.left (And.right (And.right (And.right (And.right (And.right (And.right (And.right (And.right (And.right (And.right (by assumption))))))))))) | exact And.left (And.right (And.right (And.right (And.right (And.right (And.right (And.right (And.right (And.right (And.right (And.right (by assumption)))))))))))) | exact And.left (And.right (And.right (And.right (And.right (And.right (And.right (And.right (And.right (And.right (And.right (And.right (And.right (by assumption))))))))))))) | exact And.left (And.right (And.right (And.right (And.right (And.right (And.right (And.right (And.right (And.right (And.right (And.right (And.right (And.right (by assumption)))))))))))))) | exact And.left (And.right (And.right (And.right (And.right (And.right (And.right (And.right (And.right (And.right (And.right (And.right (And.right (And.right (And.right (by assumption))))))))))))))) | exact And.left (And.right (And.right (And.right (And.right (And.right (And.right (And.right (And.right (And.right (And.right (And.right (And.right (And.right (And.right (And.right (by assumption)))))))))))))))) | exact And.right (by assumption) | exact And.right (And.right (by assumption)) | exact And.right (And.right (And.right (by assumption))) | exact And.right (And.right (And.right (And.right (by assumption)))) | exact And.right (And.right (And.right (And.right (And.right (by assumption))))) | exact And.right (And.right (And.right (And.right (And.right (And.right (by assumption)))))) | exact And.right (And.right (And.right (And.right (And.right (And.right (And.right (by assumption))))))) | exact And.right (And.right (And.right (And.right (And.right (And.right (And.right (And.right (by assumption)))))))) | exact And.right (And.right (And.right (And.right (And.right (And.right (And.right (And.right (And.right (by assumption))))))))) | exact And.right (And.right (And.right (And.right (And.right (And.right (And.right (And.right (And.right (And.right (by assumption)))))))))) | exact And.right (And.right (And.right (And.right (And.right (And.right (And.right (And.right (And.right (And.right (And.right (by assumption))))))))))) | exact And.right (And.right (And.right (And.right (And.right (And.right (And.right (And.right (And.right (And.right (And.right (And.right (by assumption)))))))))))) | exact And.right (And.right (And.right (And.right (And.right (And.right (And.right (And.right (And.right (And.right (And.right (And.right (And.right (by assumption))))))))))))) | exact And.right (And.right (And.right (And.right (And.right (And.right (And.right (And.right (And.right (And.right (And.right (And.right (And.right (And.right (by assumption)))))))))))))) | exact And.right (And.right (And.right (And.right (And.right (And.right (And.right (And.right (And.right (And.right (And.right (And.right (And.right (And.right (And.right (by assumption)))))))))))))))))) (by omega) (by exact Int.not_lt.mp (by assumption))))
end
section
open PySem PySem.W PySem.Calls PyProof.Rows
set_option maxRecDepth 100000
set_option linter.unusedVariables false
set_option maxHeartbeats 40000000 in
theorem qnone_ok (w : World) {mean : ExcName → Option Value} {mg mb : Str → Option Value} {dp un : Nat} {gd : Option (List Code)} {cn : Str} {a : Addr} {ccd : Value} {cl : List (Str × Addr)} {outer : List Env} {A₀ : Around} {base h₀ : Heap} {L : Addr} {s : Shared} {R : Flow → Shared → Prop} {E : Value → Shared → Prop}
    (scope : Scope) (hsc : scope = queueScope) (st : Stmt) (body : List Stmt) (hbd : st :: body = queueBody) (f : QF) (c : QS) {Z : List (Addr × Obj)} {k : Int} {t : Tok} {h : Heap} {tk : Nat}
    (B : Below A₀ base outer h₀) (X : (hd.heap_39 w.params).In h₀) (T : Top hd.view_39 (looseW hd.view_39 [Str.ofString "SettingError"]) mean mg mb h₀) (hd : dp + 11 < recursionLimit) (hu : un + 90 < cLine)
    (F : Fr h₀ L h (fun y => if y = Str.ofString "turn" then some (.int k t) else qM f c.p c.tp c.u y)) (N : News h₀ L h (qL w f Z c)) (e1 : c.v1 = []) (e2 : c.v2 = []) (hA : qA f Z) (hb : 0 ≤ c.b) (hm : 0 ≤ c.m) (hm' : c.m < 2147483647)
    (hR : (∀ (h' : Heap) (tk' : Nat) (b m : Int) (u3 u4 : Tok) (n1 : Nat), 0 ≤ b → 0 ≤ m → m < 2147483647 → Fr h₀ L h' (fun y => if y = Str.ofString "turn" then some (.int k t) else qM f c.p c.tp c.u y) → News h₀ L h' (qL w f Z { c with b := b, m := m, u3 := u3, u4 := u4, n1 := n1 }) → R .next { s with heap := h', toks := tk' })) :
    wpAny (model PySem.Challenge.rw_pc0359_01.row.prog w) (ktrTop dp un gd cn scope L a ccd cl outer) (exec st (envX cn scope L a ccd cl)) R E { s with heap := h, toks := tk } := by
  conv at hsc => rhs; whnf
  conv at hbd => rhs; whnf
  obtain ⟨rfl, _⟩ := List.cons.inj hbd
  subst hsc
  obtain ⟨sa, rw, dr, th, ow, x, dx, tl, cu, ba, shift, room, tsh, trm, fix⟩ := f
  obtain ⟨b, m, p, oc, dd, u3, u4, kA, kB, tS, tP, tp, k1, k2, k3, k4, k5, r1, r2, r3, r4, n1, nv1, nv2, nt, v1, v2, tv, tlv, xs, tups, u⟩ := c
  dsimp only at hb hm hm' e1 e2
  subst e1 e2
  have hAp := hA
  clear hA
  dsimp only [qA, qL, qM] at hAp N F
  have hxd : @Ne Nat x dx := fun e => hAp.2.2.2.2.2.1 (e ▸ List.Mem.head _)
  have hrd : @Ne Nat rw dr := fun e => hAp.2.2.2.1 (e ▸ List.Mem.head _)
  k_with_none
  w_top off
  k_with "om" => (first | k_extra "proj" | lia | omega (config := {}))
  k_with "pj" => (first | assumption | exact And.left (by assumption) | exact And.left (And.right (by assumption)) | exact And.left (And.right (And.right (by assumption))) | exact And.left (And.right (And.right (And.right (by assumption)))) | exact And.left (And.right (And.right (And.right (And.right (by assumption))))) | exact And.left (And.right (And.right (And.right (And.right (And.right (by assumption)))))) | exact And.left (And.right (And.right (And.right (And.right (And.right (And.right (by assumption))))))) | exact And.left (And.right (And.right (And.right (And.right (And.right (And.right (And.right (by assumption)))))))) | exact And.left (And.right (And.right (And.right (And.right (And.right (And.right (And.right (And.right (by assumption))))))))) | exact And.left (And.right (And.right (And.right (And.right (And.right (And.right (And.right (And.right (And.right (by assumption)))))))))) | exact And.left (And.right (And.right (And.right (And.right (And.right (And.right (And.right (And.right (And.right (And.right (by assumption))))))))))) | exact And.left (And.right (And.right (And.right (And.right (And.right (And.right (And.right (And.right (And.right (And.right (And.right (by assumption)))))))))))) | exact And.left (And.right (And.right (And.right (And.right (And.right (And.right (And.right (And.right (And.right (And.right (And.right (And.right (by assumption))))))))))))) | exact And.left (And.right (And.right (And.right (And.right (And.right (And.right (And.right (And.right (And.right (And.right (And.right (And.right (And.right (by assumption)))))))))))))) | exact And.right (by assumption) | exact And.right (And.right (by assumption)) | exact And.right (And.right (And.right (by assumption))) | exact And.right (And.right (And.right (And.right (by assumption)))) | exact And.right (And.right (And.right (And.right (And.right (by assumption))))) | exact And.right (And.right (And.right (And.right (And.right (And.right (by assumption)))))) | exact And.right (And.right (And.right (And.right (And.right (And.right (And.right (by assumption))))))) | exact And.right (And.right (And.right (And.right (And.right (And.right (And.right (And.right (by assumption)))))))) | exact And.right (And.right (And.right (And.right (And.right (And.right (And.right (And.right (And.right (by assumption))))))))) | exact And.right (And.right (And.right (And.right (And.right (And.right (And.right (And.right (And.right (And.right (by assumption)))))))))) | exact And.right (And.right (And.right (And.right (And.right (And.right (And.right (And.right (And.right (And.right (And.right (by assumption))))))))))) | exact And.right (And.right (And.right (And.right (And.right (And.right (And.right (And.right (And.right (And.right (And.right (And.right (by assumption)))))))))))) | exact And.right (And.right (And.right (And.right (And.right (And.right (And.right (And.right (And.right (And.right (And.right (And.right (And.right (by assumption))))))))))))))
  k_with "proj" => (first
    | (with_reducible assumption)
    | ((with_reducible show @Ne Nat _ _); (with_reducible first
      | (refine Nat.ne_of_gt ?_; k_extra "pj")
      | (refine Nat.ne_of_lt ?_; k_extra "pj")
      | (refine Nat.ne_of_gt (Nat.lt_trans ?_ (by assumption)); k_extra "pj")
      | (refine Nat.ne_of_lt (Nat.lt_trans ?_ (by assumption)); k_extra "pj")
      | k_extra "pj"
      | (refine Ne.symm ?_; k_extra "pj")
      | (first | exact And.left (And.left (by assumption)) | exact And.left (And.right (And.left (by assumption))) | exact And.right (And.right (And.left (by assumption))) | exact And.left (And.left (And.right (by assumption))) | exact And.left (And.right (And.left (And.right (by assumption)))) | exact And.right (And.right (And.left (And.right (by assumption)))) | exact And.left (And.left (And.right (And.right (by assumption)))) | exact And.left (And.right (And.left (And.right (And.right (by assumption))))) | exact And.right (And.right (And.left (And.right (And.right (by assumption))))) | exact And.left (And.left (And.right (And.right (And.right (by assumption))))) | exact And.left (And.right (And.left (And.right (And.right (And.right (by assumption)))))) | exact And.right (And.right (And.left (And.right (And.right (And.right (by assumption)))))) | exact And.left (And.left (And.right (And.right (And.right (And.right (by assumption)))))) | exact And.left (And.right (And.left (And.right (And.right (And.right (And.right (by assumption))))))) | exact And.right (And.right (And.left (And.right (And.right (And.right (And.right (by assumption))))))) | exact And.left (And.left (And.right (And.right (And.right (And.right (And.right (by assumption))))))) | exact And.left (And.right (And.left (And.right (And.right (And.right (And.right (And.right (by assumption)))))))) | exact And.right (And.right (And.left (And.right (And.right (And.right (And.right (And.right (by assumption)))))))))
      | (refine Ne.symm ?_; (first | exact And.left (And.left (by assumption)) | exact And.left (And.right (And.left (by assumption))) | exact And.right (And.right (And.left (by assumption))) | exact And.left (And.left (And.right (by assumption))) | exact And.left (And.right (And.left (And.right (by assumption)))) | exact And.right (And.right (And.left (And.right (by assumption)))) | exact And.left (And.left (And.right (And.right (by assumption)))) | exact And.left (And.right (And.left (And.right (And.right (by assumption))))) | exact And.right (And.right (And.left (And.right (And.right (by assumption))))) | exact And.left (And.left (And.right (And.right (And.right (by assumption))))) | exact And.left (And.right (And.left (And.right (And.right (And.right (by assumption)))))) | exact And.right (And.right (And.left (And.right (And.right (And.right (by assumption)))))) | exact And.left (And.left (And.right (And.right (And.right (And.right (by assumption)))))) | exact And.left (And.right (And.left (And.right (And.right (And.right (And.right (by assumption))))))) | exact And.right (And.right (And.left (And.right (And.right (And.right (And.right (by assumption))))))) | exact And.left (And.left (And.right (And.right (And.right (And.right (And.right (by assumption))))))) | exact And.left (And.right (And.left (And.right (And.right (And.right (And.right (And.right (by assumption)))))))) | exact And.right (And.right (And.left (And.right (And.right (And.right (And.right (And.right (by assumption))))))))))))
    | ((with_reducible show @LT.lt Nat _ _ _); (with_reducible k_extra "pj"))
    | ((with_reducible show @LE.le Nat _ _ _); (with_reducible first | exact Nat.le_refl _ | (refine Nat.le_of_lt ?_; k_extra "pj")))
    | ((with_reducible refine And.intro ?_ ?_) <;> omega)
    | (with_reducible (first | assumption | exact And.left (by assumption) | exact And.left (And.right (by assumption)) | exact And.left (And.right (And.right (by assumption))) | exact And.right (by assumption) | exact And.right (And.right (by assumption)))))
  k_with "updF" => k_dflt (rename Ap _ _ => hAp9; first | exact upd0 hAp9 | exact upd1 hAp9 | exact upd2 hAp9 | exact upd3 hAp9 | exact upd4 hAp9 | exact upd5 hAp9 | exact upd6 hAp9 | exact upd7 hAp9 | exact upd8 hAp9 | exact upd9 hAp9 | exact upd10 hAp9 | exact upd11 hAp9 | exact upd12 hAp9 | exact upd13 hAp9 | exact upd14 hAp9 | exact upd15 hAp9)
  k_with "upd" => k_dflt (rename Ap _ _ => hAp9; first | exact upe0 hAp9 | exact upe1 hAp9 | exact upe2 hAp9 | exact upe3 hAp9 | exact upe4 hAp9 | exact upe5 hAp9 | exact upe6 hAp9 | exact upe7 hAp9 | exact upe8 hAp9 | exact upe9 hAp9 | exact upe10 hAp9 | exact upe11 hAp9 | exact upe12 hAp9 | exact upe13 hAp9 | exact upe14 hAp9 | exact upe15 hAp9)
  k_with "lt" => ((rename (∀ p ∈ _, _ < _) => hL9); (try (rename Ap _ _ => hAp9; have hRaw := hL9; have hAp := Ap.push hAp9 hL9 rfl)); replace hL9 := allLt_of hL9; dsimp only [AllLt] at hL9)
  k_with "lt2" => ((with_reducible rename @LT.lt Nat _ _ _ => hL8); replace hL8 := ltN hL8; (try (rename Ap _ _ => hAp9; rename (∀ p ∈ _, _ < _) => hRaw9; have hAp := Ap.push2 hAp9 hRaw9 rfl hL8)))
  k_with "all" => (first | exact allLt_ne (by assumption) (by omega) | exact lt_neG (by assumption) (by omega))
  k_with "allmem" => (first | (with_reducible exact List.forall_mem_nil _) | ((with_reducible refine List.forall_mem_cons.mpr (And.intro ?_ ?_)); (focus k_mem); walk_at "allmem") | (intro p hp; (repeat (first | exact hp | apply List.mem_cons_of_mem)); done))
  k_with "storeName int" => k_dflt (refine' store_int ?gqF ?gqN ?_ ?gqa ?gqb; (case gqF => k_asm); (case gqN => k_asm); (case gqa => rfl); (case gqb => rfl); k_whole; intro t' h' tk' F' N'; (try k_sweep))
  k_with "storeName" => k_dflt (refine' store_any ?gqF ?gqN ?_ ?gqa ?gqb; (case gqF => k_asm); (case gqN => k_asm); (case gqa => rfl); (case gqb => rfl); k_whole; intro h' tk' F' N'; (try k_sweep))
  k_with "newTuple" => (k_dflt (first
    | (refine' tup_2 ?gqF ?gqN ?_; (case gqF => k_asm); (case gqN => k_asm); k_whole; intro t1' t2' D' h' tk' F' N' l1)
    | (refine' tup_3 ?gqF ?gqN ?_; (case gqF => k_asm); (case gqN => k_asm); k_whole; intro t1' t2' t3' D' h' tk' F' N' l1)
    | (refine' tup_any ?gqF ?gqN ?_ ?gqz; (case gqF => k_asm); (case gqN => k_asm); (case gqz => exact Nat.le_of_ble_eq_true rfl); k_whole; intro D' h' tk' F' N' l1)); (try k_lt l1); (try k_sweep))
  k_with "newList" => (k_dflt (first
    | (refine' list_4 ?gqF ?gqN ?_; (case gqF => k_asm); (case gqN => k_asm); k_whole; intro t1' t2' t3' t4' D' h' tk' F' N' l1)
    | (refine' list_1 ?gqF ?gqN ?_; (case gqF => k_asm); (case gqN => k_asm); k_whole; intro t1' D' h' tk' F' N' l1)
    | (refine' list_any ?gqF ?gqN ?_ ?gqz; (case gqF => k_asm); (case gqN => k_asm); (case gqz => exact Nat.le_of_ble_eq_true rfl); k_whole; intro D' h' tk' F' N' l1)); (try k_lt l1); (try k_sweep))
  k_with "exec Assign cons Call" => k_fold
  k_with "exec Assign cons Tuple" => k_fold
  k_with "exec If BoolOp cons nil" => k_fold
  k_with "exec If UnaryOp cons nil" => k_fold
  k_with "exec If Compare cons nil" => k_fold
  k_with "exec Assign cons BinOp" => k_fold
  k_with "exec Expr Call" => k_fold
  k_with "exec Assign cons Compare" => k_fold
  k_with "exec Assign cons Subscript" => k_fold
  k_with "exec If Name cons nil" => k_fold
  k_with "gx" => k_dflt (first
    | exact gv_int
    | (refine' gv_name ?gqF ?gqv ?gqa ?gqb ?gqc; (case gqF => k_asm); (case gqa => rfl); (case gqb => rfl); (case gqv => exact @rfl _ (some _)); (case gqc => decide))
    | (refine' gv_cell ?gqN ?gqc ?gqm ?gqd ?gqa ?gqb ?gqe; (case gqa => rfl); (case gqb => rfl); (case gqN => k_asm); (case gqc => rfl); (case gqm => k_mem); (case gqd => k_asm); (case gqe => decide))
    | (refine' gv_glob ?gqF ?gqX ?gqT ?gqe ?gqa ?gqb ?gqc; (case gqF => k_asm); (case gqX => k_asm); (case gqT => k_asm); (case gqa => rfl); (case gqb => rfl); (case gqe => k_is); (case gqc => decide))
    | (refine' gv_add ?gqg ?gqh; (case gqg => k_extra "gx"); (case gqh => k_extra "gx"))
    | (refine' gv_sub ?gqg ?gqh; (case gqg => k_extra "gx"); (case gqh => k_extra "gx"))
    | (refine' gv_attr ?gqg ?gqk1 ?gqk2 ?gqk3 ?gqk4 ?gqk5 ?gqk6 ?gqk7 ?gqk8 ?gqk9 ?gqe; (case gqg => k_extra "gx"); (case gqk1 => k_asm); (case gqk2 => k_asm); (case gqk3 => k_inst); (case gqk4 => k_is); (case gqk5 => k_is); (case gqk6 => k_is); (case gqk7 => k_is); (case gqk8 => k_get); (case gqk9 => k_handed); (case gqe => with_unfolding_all rfl)))
  k_with "gl" => k_dflt (first
    | exact gl_nil
    | (refine' gl_cons ?gqg ?gqh ?gqe; (case gqe => rfl); (case gqg => k_extra "gx"); (case gqh => k_extra "gl")))
  k_with "callWith ref" => (k_dflt (refine' callWith_gv ?gqX ?gqF ?gqk ?gqg ?_ ?gqe ?gqp; (case gqX => k_asm); (case gqF => k_asm); (case gqk => k_is); (case gqe => rfl); (case gqp => rfl); (case gqg => k_extra "gl"); k_whole); (try dsimp only [List.nil_append, List.cons_append]))
  k_with "eval Call Name cons nil" => k_dflt (refine' call_gv ?gqX ?gqF ?gqf ?gqk ?gqg ?_ ?gqc ?gqe ?gqp; (case gqX => k_asm); (case gqF => k_asm); (case gqc => rfl); (case gqe => rfl); (case gqp => rfl); (case gqf => k_extra "gx"); (case gqk => k_is); (case gqg => k_extra "gl"); k_whole)
  k_with "eval Name" => k_dflt (refine' nameX_L ?gqF ?gqv ?_ ?gqa ?gqb ?gqc; (case gqF => k_asm); (case gqa => rfl); (case gqb => rfl); (case gqv => exact @rfl _ (some _)); (case gqc => decide); k_whole)
  k_with "spliced" => (k_dflt (refine' spliced_gv ?gqg ?_; (case gqg => k_extra "gl"); k_whole); (try dsimp only [List.nil_append, List.cons_append]))
  k_with "eval BinOp" => k_dflt (refine' eval_gv ?gqg ?_; (case gqg => k_extra "gx"); k_whole)
  k_with "eval Attribute Name" => k_dflt (refine' eval_gv ?gqg ?_; (case gqg => k_extra "gx"); k_whole)
  k_with "cmp" => k_dflt (first
    | ((with_reducible show wpAny _ _ (isTrue (Expr.Compare _ [CmpOp.Lt] [_] _) _ _) _ _ _); refine' ts_lt ?gqg ?gqh ?_ ?gqm; (case gqm => with_unfolding_all rfl); (case gqg => k_extra "gx"); (case gqh => k_extra "gx"); k_whole)
    | ((with_reducible show wpAny _ _ (isTrue (Expr.Compare _ [CmpOp.LtE] [_] _) _ _) _ _ _); refine' ts_le ?gqg ?gqh ?_ ?gqm; (case gqm => with_unfolding_all rfl); (case gqg => k_extra "gx"); (case gqh => k_extra "gx"); k_whole)
    | ((with_reducible show wpAny _ _ (isTrue (Expr.Compare _ [CmpOp.Gt] [_] _) _ _) _ _ _); refine' ts_gt ?gqg ?gqh ?_ ?gqm; (case gqm => with_unfolding_all rfl); (case gqg => k_extra "gx"); (case gqh => k_extra "gx"); k_whole)
    | ((with_reducible show wpAny _ _ (isTrue (Expr.Compare _ [CmpOp.GtE] [_] _) _ _) _ _ _); refine' ts_ge ?gqg ?gqh ?_ ?gqm; (case gqm => with_unfolding_all rfl); (case gqg => k_extra "gx"); (case gqh => k_extra "gx"); k_whole)
    | ((with_reducible show wpAny _ _ (isTrue (Expr.Compare _ [CmpOp.Eq] [_] _) _ _) _ _ _); refine' ts_eq ?gqg ?gqh ?_ ?gqm; (case gqm => with_unfolding_all rfl); (case gqg => k_extra "gx"); (case gqh => k_extra "gx"); k_whole)
    | ((with_reducible show wpAny _ _ (isTrue (Expr.Compare _ [CmpOp.NotEq] [_] _) _ _) _ _ _); refine' ts_ne ?gqg ?gqh ?_ ?gqm; (case gqm => with_unfolding_all rfl); (case gqg => k_extra "gx"); (case gqh => k_extra "gx"); k_whole))
  k_with "isTrue Compare Name" => k_extra "cmp"
  k_with "isTrue Compare Constant" => k_extra "cmp"
  k_with "isTrue Compare BinOp" => k_extra "cmp"
  k_with "isTrue Compare Attribute" => k_extra "cmp"
  k_with "enter" => (refine' code_any ?k1 ?k2 ?k3 ?k4 ?k5 ?kA ?kF ?kK ?k6 ?k7 ?k8 ?k9 ?kB ?_ ?c2 ?c3 ?c4 ?c5; (case kA => exact rfl); (case kF => exact rfl); (case kK => first | exact rfl | assumption); (case k1 => k_asm); (case k2 => k_asm); (case k3 => k_asm); (case k4 => k_asm); (case k5 => k_asm); (case k6 => k_is); (case k7 => k_is); (case k8 => k_room); (case k9 => first | exact BindsTo.of_eq rfl | exact binds_K (by k_in) rfl (by k_is) rfl rfl rfl); (case c5 => decide); (case kB => exact locs rfl); (case c2 => exact rfl); (case c3 => exact rfl); (case c4 => exact rfl); k_whole; intro g' L' h' tk' FG' F' N' B' X' T'; (try dsimp only); (try k_lift B'); (try k_fold))
  k_with "clsnew" => k_dflt (refine' call_cls ?k1 ?k2 ?k3 ?k4 ?k5 ?k6 ?_; (case k1 => k_asm); (case k2 => k_asm); (case k3 => k_asm); (case k4 => k_is); (case k5 => k_is); (case k6 => k_is); k_whole; intro x' d' h' F' N' l1 l2; (try k_lt l1); (try k_lt2 l2); (try k_sweep); k_extra "enter")
  revert X; k_fill; intro X
  k_with "compareOp NotEq ref ref" => k_dflt (first
    | refine ne_tups (by k_asm) (by k_mem) (by k_mem) (by ktr_units) ?_
    | refine ne_nil_nil (by k_asm) (by k_mem) (by k_mem) (by ktr_units) ?_
    | refine ne_nil_cons (Z := Z) (by k_asm) (by k_mem) (by k_mem) (by walk_at "allmem") (by assumption) (by ktr_units) ?_)
  k_with "call ref" => k_dflt (
    (with_reducible show wpAny _ _ (call (Value.ref 187) _) _ _ _)
    refine' take_use ?k1 ?k2 ?k3 ?k4 ?k5 ?kK ?kU ?hb ?hm ?hm' ?ht ?ht' ?kd ?ku ?_
    (case k1 => k_asm)
    (case k2 => k_asm)
    (case k3 => k_asm)
    (case k5 => k_asm)
    (case k4 => k_asm)
    (case kU => k_updF)
    (case hb => assumption)
    (case hm => assumption)
    (case hm' => assumption)
    (case ht => decide)
    (case ht' => decide)
    (case kK => first | exact rfl | assumption)
    (case kd => first | exact room1 (by assumption) (by decide) | exact room2 (by assumption) (by decide) | ktr_room)
    (case ku => first | exact room1 (by assumption) (by decide) | exact room2 (by assumption) (by decide) | ktr_units)
    intro b9 m9 d9 t91 t92 t93 n9 h9 tk9 hd91 hd92 hb9 hm91 hm92 F9 N9
    (try dsimp only at N9)
    (try dsimp only)
    (try k_fold)
    skip)
  k_steps
  all_goals (try dsimp only)
  all_goals (refine hR _ _ _ _ _ _ _ ?_ ?_ ?_ (by k_asm) (news_sub (by k_asm) (by (dsimp only [qL]; walk_at "allmem"))) <;> assumption)
set_option maxHeartbeats 40000000 in
theorem qsome_ok (w : World) {mean : ExcName → Option Value} {mg mb : Str → Option Value} {dp un : Nat} {gd : Option (List Code)} {cn : Str} {a : Addr} {ccd : Value} {cl : List (Str × Addr)} {outer : List Env} {A₀ : Around} {base h₀ : Heap} {L : Addr} {s : Shared} {R : Flow → Shared → Prop} {E : Value → Shared → Prop}
    (scope : Scope) (hsc : scope = queueScope) (st : Stmt) (body : List Stmt) (hbd : st :: body = queueBody) (f : QF) (c : QS) {Z : List (Addr × Obj)} {k : Int} {t : Tok} {h : Heap} {tk : Nat} {a1 a2 : Addr} {s1 i1 : Int} {w1 w2 w3 w4 : Tok} {c1 c2 : Nat} {v1 v2 : List Value} {xs : List (Int × Int)}
    (B : Below A₀ base outer h₀) (X : (hd.heap_39 w.params).In h₀) (T : Top hd.view_39 (looseW hd.view_39 [Str.ofString "SettingError"]) mean mg mb h₀) (hd : dp + 11 < recursionLimit) (hu : un + 90 < cLine)
    (F : Fr h₀ L h (fun y => if y = Str.ofString "turn" then some (.int k t) else qM f c.p c.tp c.u y)) (N : News h₀ L h (qL w f ((a1, tupObj s1 i1 w1 w2 c1) :: (a2, tupObj s1 i1 w3 w4 c2) :: Z) c)) (e1 : c.v1 = .ref a1 :: v1) (e2 : c.v2 = .ref a2 :: v2) (hA : qA f ((a1, tupObj s1 i1 w1 w2 c1) :: (a2, tupObj s1 i1 w3 w4 c2) :: Z)) (hb : 0 ≤ c.b) (hm : 0 ≤ c.m) (hm' : c.m < 2147483647)
    (hl1 : v1.length < 20) (hl2 : v2.length < 20) (hT : Tups Z (.ref a2 :: v2) ((s1, i1) :: xs))
    (hR1 : (∀ (h' : Heap) (tk' : Nat) (b m : Int) (u3 u4 : Tok) (n1 : Nat), 0 ≤ b → 0 ≤ m → m < 2147483647 → Fr h₀ L h' (fun y => if y = Str.ofString "turn" then some (.int k t) else qM f c.p c.tp c.u y) → News h₀ L h' (qL w f Z { c with b := b, m := m, u3 := u3, u4 := u4, n1 := n1 }) → R .next { s with heap := h', toks := tk' }))
    (hR2 : (∀ (h' : Heap) (tk' : Nat) (b m : Int) (u3 u4 r3 : Tok) (n1 nv1 nv2 : Nat), 0 ≤ b → 0 ≤ m → m < 2147483647 → Fr h₀ L h' (fun y => if y = Str.ofString "turn" then some (.int k t) else qM f c.p c.tp c.u y) → News h₀ L h' (qL w f Z { c with b := b, m := m, u3 := u3, u4 := u4, n1 := n1, r3 := r3, nv1 := nv1, nv2 := nv2, oc := c.oc - s1, v1 := v1, v2 := v2, xs := xs }) → R .next { s with heap := h', toks := tk' })) :
    wpAny (model PySem.Challenge.rw_pc0359_01.row.prog w) (ktrTop dp un gd cn scope L a ccd cl outer) (exec st (envX cn scope L a ccd cl)) R E { s with heap := h, toks := tk } := by
  conv at hsc => rhs; whnf
  conv at hbd => rhs; whnf
  obtain ⟨rfl, _⟩ := List.cons.inj hbd
  subst hsc
  obtain ⟨sa, rw, dr, th, ow, x, dx, tl, cu, ba, shift, room, tsh, trm, fix⟩ := f
  obtain ⟨b, m, p, oc, dd, u3, u4, kA, kB, tS, tP, tp, k1, k2, k3, k4, k5, r1, r2, r3, r4, n1, nv1, nv2, nt, v1q, v2q, tv, tlv, xsq, tups, u⟩ := c
  dsimp only at hb hm hm' e1 e2
  subst e1 e2
  have hAp := hA
  clear hA
  dsimp only [qA, qL, qM, List.map_cons] at hAp N F
  have hxd : @Ne Nat x dx := fun e => hAp.2.2.2.2.2.1 (e ▸ List.Mem.head _)
  have hrd : @Ne Nat rw dr := fun e => hAp.2.2.2.1 (e ▸ List.Mem.head _)
  k_with_none
  w_top off
  k_with "om" => (first | k_extra "proj" | lia | omega (config := {}))
  k_with "pj" => (first | assumption | exact And.left (by assumption) | exact And.left (And.right (by assumption)) | exact And.left (And.right (And.right (by assumption))) | exact And.left (And.right (And.right (And.right (by assumption)))) | exact And.left (And.right (And.right (And.right (And.right (by assumption))))) | exact And.left (And.right (And.right (And.right (And.right (And.right (by assumption)))))) | exact And.left (And.right (And.right (And.right (And.right (And.right (And.right (by assumption))))))) | exact And.left (And.right (And.right (And.right (And.right (And.right (And.right (And.right (by assumption)))))))) | exact And.left (And.right (And.right (And.right (And.right (And.right (And.right (And.right (And.right (by assumption))))))))) | exact And.left (And.right (And.right (And.right (And.right (And.right (And.right (And.right (And.right (And.right (by assumption)))))))))) | exact And.left (And.right (And.right (And.right (And.right (And.right (And.right (And.right (And.right (And.right (And.right (by assumption))))))))))) | exact And.left (And.right (And.right (And.right (And.right (And.right (And.right (And.right (And.right (And.right (And.right (And.right (by assumption)))))))))))) | exact And.left (And.right (And.right (And.right (And.right (And.right (And.right (And.right (And.right (And.right (And.right (And.right (And.right (by assumption))))))))))))) | exact And.left (And.right (And.right (And.right (And.right (And.right (And.right (And.right (And.right (And.right (And.right (And.right (And.right (And.right (by assumption)))))))))))))) | exact And.right (by assumption) | exact And.right (And.right (by assumption)) | exact And.right (And.right (And.right (by assumption))) | exact And.right (And.right (And.right (And.right (by assumption)))) | exact And.right (And.right (And.right (And.right (And.right (by assumption))))) | exact And.right (And.right (And.right (And.right (And.right (And.right (by assumption)))))) | exact And.right (And.right (And.right (And.right (And.right (And.right (And.right (by assumption))))))) | exact And.right (And.right (And.right (And.right (And.right (And.right (And.right (And.right (by assumption)))))))) | exact And.right (And.right (And.right (And.right (And.right (And.right (And.right (And.right (And.right (by assumption))))))))) | exact And.right (And.right (And.right (And.right (And.right (And.right (And.right (And.right (And.right (And.right (by assumption)))))))))) | exact And.right (And.right (And.right (And.right (And.right (And.right (And.right (And.right (And.right (And.right (And.right (by assumption))))))))))) | exact And.right (And.right (And.right (And.right (And.right (And.right (And.right (And.right (And.right (And.right (And.right (And.right (by assumption)))))))))))) | exact And.right (And.right (And.right (And.right (And.right (And.right (And.right (And.right (And.right (And.right (And.right (And.right (And.right (by assumption))))))))))))))
  k_with "proj" => (first
    | (with_reducible assumption)
    | ((with_reducible show @Ne Nat _ _); (with_reducible first
      | (refine Nat.ne_of_gt ?_; k_extra "pj")
      | (refine Nat.ne_of_lt ?_; k_extra "pj")
      | (refine Nat.ne_of_gt (Nat.lt_trans ?_ (by assumption)); k_extra "pj")
      | (refine Nat.ne_of_lt (Nat.lt_trans ?_ (by assumption)); k_extra "pj")
      | k_extra "pj"
      | (refine Ne.symm ?_; k_extra "pj")
      | (first | exact And.left (And.left (by assumption)) | exact And.left (And.right (And.left (by assumption))) | exact And.right (And.right (And.left (by assumption))) | exact And.left (And.left (And.right (by assumption))) | exact And.left (And.right (And.left (And.right (by assumption)))) | exact And.right (And.right (And.left (And.right (by assumption)))) | exact And.left (And.left (And.right (And.right (by assumption)))) | exact And.left (And.right (And.left (And.right (And.right (by assumption))))) | exact And.right (And.right (And.left (And.right (And.right (by assumption))))) | exact And.left (And.left (And.right (And.right (And.right (by assumption))))) | exact And.left (And.right (And.left (And.right (And.right (And.right (by assumption)))))) | exact And.right (And.right (And.left (And.right (And.right (And.right (by assumption)))))) | exact And.left (And.left (And.right (And.right (And.right (And.right (by assumption)))))) | exact And.left (And.right (And.left (And.right (And.right (And.right (And.right (by assumption))))))) | exact And.right (And.right (And.left (And.right (And.right (And.right (And.right (by assumption))))))) | exact And.left (And.left (And.right (And.right (And.right (And.right (And.right (by assumption))))))) | exact And.left (And.right (And.left (And.right (And.right (And.right (And.right (And.right (by assumption)))))))) | exact And.right (And.right (And.left (And.right (And.right (And.right (And.right (And.right (by assumption)))))))))
      | (refine Ne.symm ?_; (first | exact And.left (And.left (by assumption)) | exact And.left (And.right (And.left (by assumption))) | exact And.right (And.right (And.left (by assumption))) | exact And.left (And.left (And.right (by assumption))) | exact And.left (And.right (And.left (And.right (by assumption)))) | exact And.right (And.right (And.left (And.right (by assumption)))) | exact And.left (And.left (And.right (And.right (by assumption)))) | exact And.left (And.right (And.left (And.right (And.right (by assumption))))) | exact And.right (And.right (And.left (And.right (And.right (by assumption))))) | exact And.left (And.left (And.right (And.right (And.right (by assumption))))) | exact And.left (And.right (And.left (And.right (And.right (And.right (by assumption)))))) | exact And.right (And.right (And.left (And.right (And.right (And.right (by assumption)))))) | exact And.left (And.left (And.right (And.right (And.right (And.right (by assumption)))))) | exact And.left (And.right (And.left (And.right (And.right (And.right (And.right (by assumption))))))) | exact And.right (And.right (And.left (And.right (And.right (And.right (And.right (by assumption))))))) | exact And.left (And.left (And.right (And.right (And.right (And.right (And.right (by assumption))))))) | exact And.left (And.right (And.left (And.right (And.right (And.right (And.right (And.right (by assumption)))))))) | exact And.right (And.right (And.left (And.right (And.right (And.right (And.right (And.right (by assumption))))))))))))
    | ((with_reducible show @LT.lt Nat _ _ _); (with_reducible k_extra "pj"))
    | ((with_reducible show @LE.le Nat _ _ _); (with_reducible first | exact Nat.le_refl _ | (refine Nat.le_of_lt ?_; k_extra "pj")))
    | ((with_reducible refine And.intro ?_ ?_) <;> omega)
    | (with_reducible (first | assumption | exact And.left (by assumption) | exact And.left (And.right (by assumption)) | exact And.left (And.right (And.right (by assumption))) | exact And.right (by assumption) | exact And.right (And.right (by assumption)))))
  k_with "updF" => k_dflt (rename Ap _ _ => hAp9; first | exact upd0 hAp9 | exact upd1 hAp9 | exact upd2 hAp9 | exact upd3 hAp9 | exact upd4 hAp9 | exact upd5 hAp9 | exact upd6 hAp9 | exact upd7 hAp9 | exact upd8 hAp9 | exact upd9 hAp9 | exact upd10 hAp9 | exact upd11 hAp9 | exact upd12 hAp9 | exact upd13 hAp9 | exact upd14 hAp9 | exact upd15 hAp9)
  k_with "upd" => k_dflt (rename Ap _ _ => hAp9; first | exact upe0 hAp9 | exact upe1 hAp9 | exact upe2 hAp9 | exact upe3 hAp9 | exact upe4 hAp9 | exact upe5 hAp9 | exact upe6 hAp9 | exact upe7 hAp9 | exact upe8 hAp9 | exact upe9 hAp9 | exact upe10 hAp9 | exact upe11 hAp9 | exact upe12 hAp9 | exact upe13 hAp9 | exact upe14 hAp9 | exact upe15 hAp9)
  k_with "lt" => ((rename (∀ p ∈ _, _ < _) => hL9); (try (rename Ap _ _ => hAp9; have hRaw := hL9; have hAp := Ap.push hAp9 hL9 rfl)); replace hL9 := allLt_of hL9; dsimp only [AllLt] at hL9)
  k_with "lt2" => ((with_reducible rename @LT.lt Nat _ _ _ => hL8); replace hL8 := ltN hL8; (try (rename Ap _ _ => hAp9; rename (∀ p ∈ _, _ < _) => hRaw9; have hAp := Ap.push2 hAp9 hRaw9 rfl hL8)))
  k_with "all" => (first | exact allLt_ne (by assumption) (by omega) | exact lt_neG (by assumption) (by omega))
  k_with "allmem" => (first | (with_reducible exact List.forall_mem_nil _) | ((with_reducible refine List.forall_mem_cons.mpr (And.intro ?_ ?_)); (focus k_mem); walk_at "allmem") | (intro p hp; (repeat (first | exact hp | apply List.mem_cons_of_mem)); done))
  k_with "storeName int" => k_dflt (refine' store_int ?gqF ?gqN ?_ ?gqa ?gqb; (case gqF => k_asm); (case gqN => k_asm); (case gqa => rfl); (case gqb => rfl); k_whole; intro t' h' tk' F' N'; (try k_sweep))
  k_with "storeName" => k_dflt (refine' store_any ?gqF ?gqN ?_ ?gqa ?gqb; (case gqF => k_asm); (case gqN => k_asm); (case gqa => rfl); (case gqb => rfl); k_whole; intro h' tk' F' N'; (try k_sweep))
  k_with "newTuple" => (k_dflt (first
    | (refine' tup_2 ?gqF ?gqN ?_; (case gqF => k_asm); (case gqN => k_asm); k_whole; intro t1' t2' D' h' tk' F' N' l1)
    | (refine' tup_3 ?gqF ?gqN ?_; (case gqF => k_asm); (case gqN => k_asm); k_whole; intro t1' t2' t3' D' h' tk' F' N' l1)
    | (refine' tup_any ?gqF ?gqN ?_ ?gqz; (case gqF => k_asm); (case gqN => k_asm); (case gqz => exact Nat.le_of_ble_eq_true rfl); k_whole; intro D' h' tk' F' N' l1)); (try k_lt l1); (try k_sweep))
  k_with "newList" => (k_dflt (first
    | (refine' list_4 ?gqF ?gqN ?_; (case gqF => k_asm); (case gqN => k_asm); k_whole; intro t1' t2' t3' t4' D' h' tk' F' N' l1)
    | (refine' list_1 ?gqF ?gqN ?_; (case gqF => k_asm); (case gqN => k_asm); k_whole; intro t1' D' h' tk' F' N' l1)
    | (refine' list_any ?gqF ?gqN ?_ ?gqz; (case gqF => k_asm); (case gqN => k_asm); (case gqz => exact Nat.le_of_ble_eq_true rfl); k_whole; intro D' h' tk' F' N' l1)); (try k_lt l1); (try k_sweep))
  k_with "exec Assign cons Call" => k_fold
  k_with "exec Assign cons Tuple" => k_fold
  k_with "exec If BoolOp cons nil" => k_fold
  k_with "exec If UnaryOp cons nil" => k_fold
  k_with "exec If Compare cons nil" => k_fold
  k_with "exec Assign cons BinOp" => k_fold
  k_with "exec Expr Call" => k_fold
  k_with "exec Assign cons Compare" => k_fold
  k_with "exec Assign cons Subscript" => k_fold
  k_with "exec If Name cons nil" => k_fold
  k_with "gx" => k_dflt (first
    | exact gv_int
    | (refine' gv_name ?gqF ?gqv ?gqa ?gqb ?gqc; (case gqF => k_asm); (case gqa => rfl); (case gqb => rfl); (case gqv => exact @rfl _ (some _)); (case gqc => decide))
    | (refine' gv_cell ?gqN ?gqc ?gqm ?gqd ?gqa ?gqb ?gqe; (case gqa => rfl); (case gqb => rfl); (case gqN => k_asm); (case gqc => rfl); (case gqm => k_mem); (case gqd => k_asm); (case gqe => decide))
    | (refine' gv_glob ?gqF ?gqX ?gqT ?gqe ?gqa ?gqb ?gqc; (case gqF => k_asm); (case gqX => k_asm); (case gqT => k_asm); (case gqa => rfl); (case gqb => rfl); (case gqe => k_is); (case gqc => decide))
    | (refine' gv_add ?gqg ?gqh; (case gqg => k_extra "gx"); (case gqh => k_extra "gx"))
    | (refine' gv_sub ?gqg ?gqh; (case gqg => k_extra "gx"); (case gqh => k_extra "gx"))
    | (refine' gv_attr ?gqg ?gqk1 ?gqk2 ?gqk3 ?gqk4 ?gqk5 ?gqk6 ?gqk7 ?gqk8 ?gqk9 ?gqe; (case gqg => k_extra "gx"); (case gqk1 => k_asm); (case gqk2 => k_asm); (case gqk3 => k_inst); (case gqk4 => k_is); (case gqk5 => k_is); (case gqk6 => k_is); (case gqk7 => k_is); (case gqk8 => k_get); (case gqk9 => k_handed); (case gqe => with_unfolding_all rfl)))
  k_with "gl" => k_dflt (first
    | exact gl_nil
    | (refine' gl_cons ?gqg ?gqh ?gqe; (case gqe => rfl); (case gqg => k_extra "gx"); (case gqh => k_extra "gl")))
  k_with "callWith ref" => (k_dflt (refine' callWith_gv ?gqX ?gqF ?gqk ?gqg ?_ ?gqe ?gqp; (case gqX => k_asm); (case gqF => k_asm); (case gqk => k_is); (case gqe => rfl); (case gqp => rfl); (case gqg => k_extra "gl"); k_whole); (try dsimp only [List.nil_append, List.cons_append]))
  k_with "eval Call Name cons nil" => k_dflt (refine' call_gv ?gqX ?gqF ?gqf ?gqk ?gqg ?_ ?gqc ?gqe ?gqp; (case gqX => k_asm); (case gqF => k_asm); (case gqc => rfl); (case gqe => rfl); (case gqp => rfl); (case gqf => k_extra "gx"); (case gqk => k_is); (case gqg => k_extra "gl"); k_whole)
  k_with "eval Name" => k_dflt (refine' nameX_L ?gqF ?gqv ?_ ?gqa ?gqb ?gqc; (case gqF => k_asm); (case gqa => rfl); (case gqb => rfl); (case gqv => exact @rfl _ (some _)); (case gqc => decide); k_whole)
  k_with "spliced" => (k_dflt (refine' spliced_gv ?gqg ?_; (case gqg => k_extra "gl"); k_whole); (try dsimp only [List.nil_append, List.cons_append]))
  k_with "eval BinOp" => k_dflt (refine' eval_gv ?gqg ?_; (case gqg => k_extra "gx"); k_whole)
  k_with "eval Attribute Name" => k_dflt (refine' eval_gv ?gqg ?_; (case gqg => k_extra "gx"); k_whole)
  k_with "cmp" => k_dflt (first
    | ((with_reducible show wpAny _ _ (isTrue (Expr.Compare _ [CmpOp.Lt] [_] _) _ _) _ _ _); refine' ts_lt ?gqg ?gqh ?_ ?gqm; (case gqm => with_unfolding_all rfl); (case gqg => k_extra "gx"); (case gqh => k_extra "gx"); k_whole)
    | ((with_reducible show wpAny _ _ (isTrue (Expr.Compare _ [CmpOp.LtE] [_] _) _ _) _ _ _); refine' ts_le ?gqg ?gqh ?_ ?gqm; (case gqm => with_unfolding_all rfl); (case gqg => k_extra "gx"); (case gqh => k_extra "gx"); k_whole)
    | ((with_reducible show wpAny _ _ (isTrue (Expr.Compare _ [CmpOp.Gt] [_] _) _ _) _ _ _); refine' ts_gt ?gqg ?gqh ?_ ?gqm; (case gqm => with_unfolding_all rfl); (case gqg => k_extra "gx"); (case gqh => k_extra "gx"); k_whole)
    | ((with_reducible show wpAny _ _ (isTrue (Expr.Compare _ [CmpOp.GtE] [_] _) _ _) _ _ _); refine' ts_ge ?gqg ?gqh ?_ ?gqm; (case gqm => with_unfolding_all rfl); (case gqg => k_extra "gx"); (case gqh => k_extra "gx"); k_whole)
    | ((with_reducible show wpAny _ _ (isTrue (Expr.Compare _ [CmpOp.Eq] [_] _) _ _) _ _ _); refine' ts_eq ?gqg ?gqh ?_ ?gqm; (case gqm => with_unfolding_all rfl); (case gqg => k_extra "gx"); (case gqh => k_extra "gx"); k_whole)
    | ((with_reducible show wpAny _ _ (isTrue (Expr.Compare _ [CmpOp.NotEq] [_] _) _ _) _ _ _); refine' ts_ne ?gqg ?gqh ?_ ?gqm; (case gqm => with_unfolding_all rfl); (case gqg => k_extra "gx"); (case gqh => k_extra "gx"); k_whole))
  k_with "isTrue Compare Name" => k_extra "cmp"
  k_with "isTrue Compare Constant" => k_extra "cmp"
  k_with "isTrue Compare BinOp" => k_extra "cmp"
  k_with "isTrue Compare Attribute" => k_extra "cmp"
  k_with "enter" => (refine' code_any ?k1 ?k2 ?k3 ?k4 ?k5 ?kA ?kF ?kK ?k6 ?k7 ?k8 ?k9 ?kB ?_ ?c2 ?c3 ?c4 ?c5; (case kA => exact rfl); (case kF => exact rfl); (case kK => first | exact rfl | assumption); (case k1 => k_asm); (case k2 => k_asm); (case k3 => k_asm); (case k4 => k_asm); (case k5 => k_asm); (case k6 => k_is); (case k7 => k_is); (case k8 => k_room); (case k9 => first | exact BindsTo.of_eq rfl | exact binds_K (by k_in) rfl (by k_is) rfl rfl rfl); (case c5 => decide); (case kB => exact locs rfl); (case c2 => exact rfl); (case c3 => exact rfl); (case c4 => exact rfl); k_whole; intro g' L' h' tk' FG' F' N' B' X' T'; (try dsimp only); (try k_lift B'); (try k_fold))
  k_with "clsnew" => k_dflt (refine' call_cls ?k1 ?k2 ?k3 ?k4 ?k5 ?k6 ?_; (case k1 => k_asm); (case k2 => k_asm); (case k3 => k_asm); (case k4 => k_is); (case k5 => k_is); (case k6 => k_is); k_whole; intro x' d' h' F' N' l1 l2; (try k_lt l1); (try k_lt2 l2); (try k_sweep); k_extra "enter")
  revert X; k_fill; intro X
  k_with "compareOp NotEq ref ref" => k_dflt (first
    | refine ne_tups (by k_asm) (by k_mem) (by k_mem) (by ktr_units) ?_
    | refine ne_nil_nil (by k_asm) (by k_mem) (by k_mem) (by ktr_units) ?_
    | refine ne_nil_cons (Z := Z) (by k_asm) (by k_mem) (by k_mem) (by walk_at "allmem") (by assumption) (by ktr_units) ?_)
  k_with "call builtin:list.pop" => ((with_reducible show wpAny _ _ (call (Value.builtin _) [Value.ref _, Value.int _ _]) _ _ _); k_dflt (refine pop0_st (by k_asm) (by k_asm) (by k_updF) (by omega) ?_); intro h' n' F' N'; (try dsimp only at N'))
  k_with "call ref" => k_dflt (
    (with_reducible show wpAny _ _ (call (Value.ref 187) _) _ _ _)
    refine' take_use ?k1 ?k2 ?k3 ?k4 ?k5 ?kK ?kU ?hb ?hm ?hm' ?ht ?ht' ?kd ?ku ?_
    (case k1 => k_asm)
    (case k2 => k_asm)
    (case k3 => k_asm)
    (case k5 => k_asm)
    (case k4 => k_asm)
    (case kU => k_updF)
    (case hb => assumption)
    (case hm => assumption)
    (case hm' => assumption)
    (case ht => decide)
    (case ht' => decide)
    (case kK => first | exact rfl | assumption)
    (case kd => first | exact room1 (by assumption) (by decide) | exact room2 (by assumption) (by decide) | ktr_room)
    (case ku => first | exact room1 (by assumption) (by decide) | exact room2 (by assumption) (by decide) | ktr_units)
    intro b9 m9 d9 t91 t92 t93 n9 h9 tk9 hd91 hd92 hb9 hm91 hm92 F9 N9
    (try dsimp only at N9)
    (try dsimp only)
    (try k_fold)
    skip)
  k_steps
  all_goals (try dsimp only)
  all_goals first
    | (refine hR1 _ _ _ _ _ _ _ ?_ ?_ ?_ (by k_asm) (news_sub (by k_asm) (by (dsimp only [qL]; walk_at "allmem"))) <;> assumption)
    | (refine hR2 _ _ _ _ _ _ _ _ _ _ ?_ ?_ ?_ (by k_asm) (news_sub (by k_asm) (by (dsimp only [qL]; walk_at "allmem"))) <;> assumption)
end
section
open PySem PySem.W PySem.Calls PyProof.Rows
set_option maxRecDepth 100000
set_option linter.unusedVariables false
theorem Ap.open4 {a b c d : Addr} {rest : List (Addr × Obj)} (h : OwnOff rest [a, b, c, d]) (h1 : @Ne Nat a b) (h2 : @Ne Nat a c) (h3 : @Ne Nat a d) (h4 : @Ne Nat b c) (h5 : @Ne Nat b d) (h6 : @Ne Nat c d) : Ap 4 (a :: b :: c :: d :: rest.map Prod.fst) := by
  have k : ∀ x ∈ [a, b, c, d], x ∉ rest.map Prod.fst := fun x hx hm => by
    obtain ⟨p, hp, e⟩ := List.mem_map.mp hm
    exact h p hp x hx e
  exact ⟨by simp only [List.mem_cons, not_or]; exact ⟨h1, h2, h3, k a (by simp)⟩, by simp only [List.mem_cons, not_or]; exact ⟨h4, h5, k b (by simp)⟩, by simp only [List.mem_cons, not_or]; exact ⟨h6, k c (by simp)⟩, k d (by simp), trivial⟩
set_option maxHeartbeats 40000000 in
theorem queue_ok (w : World) (sa c dc ba : Addr) (b m : Int) (k1 k2 k3 t1 t2 t3 u1 u2 u3 u4 u5 u6 u7 : Tok) (shift low high most room : Int) (n1 n2 : Nat) (rest : List (Addr × Obj))
    (ho : OwnOff rest [sa, c, dc, ba]) (hn1 : @Ne Nat c dc) (hn2 : @Ne Nat c ba) (hn3 : @Ne Nat dc ba) (hn4 : @Ne Nat sa c) (hn5 : @Ne Nat sa dc) (hn6 : @Ne Nat sa ba)
    (hb : 0 ≤ b) (hm : 0 ≤ m) (hm' : m < 2147483647) (hs0 : 0 ≤ shift) (hs1 : shift < 4)
    (h0 : 0 ≤ low) (h1 : low < high) (h2 : high < 1000) (h3 : 0 ≤ most) (h4 : most < 1000) (hr0 : 20 ≤ room) (hr1 : room < 50) :
    Claim w 12 214 [.ref sa, .int shift u1, .ref c, .ref ba, .int room u2] ((sa, listOf #[.int b u3, .int m u4] n1) :: (c, instObj 120 dc) :: (dc, curveObj w k1 k2 k3 low t1 high t2 most t3) :: (ba, { cls := .type "tuple", data := .seq #[.int low u5, .int high u6, .int most u7] n2 }) :: rest)
      (fun r news' => r = .bool true ∧ ∃ (b m : Int) (u3 u4 : Tok) (n1 : Nat), 0 ≤ b ∧ 0 ≤ m ∧ m < 2147483647 ∧ news' = (sa, listOf #[.int b u3, .int m u4] n1) :: (c, instObj 120 dc) :: (dc, curveObj w k1 k2 k3 low t1 high t2 most t3) :: (ba, { cls := .type "tuple", data := .seq #[.int low u5, .int high u6, .int most u7] n2 }) :: rest) := by
  unfold Claim
  k_with_none
  w_top off
  k_with "om" => (first | k_extra "proj" | lia | omega (config := {}))
  k_with "pj" => (first | assumption | exact And.left (by assumption) | exact And.left (And.right (by assumption)) | exact And.left (And.right (And.right (by assumption))) | exact And.left (And.right (And.right (And.right (by assumption)))) | exact And.left (And.right (And.right (And.right (And.right (by assumption))))) | exact And.left (And.right (And.right (And.right (And.right (And.right (by assumption)))))) | exact And.left (And.right (And.right (And.right (And.right (And.right (And.right (by assumption))))))) | exact And.left (And.right (And.right (And.right (And.right (And.right (And.right (And.right (by assumption)))))))) | exact And.left (And.right (And.right (And.right (And.right (And.right (And.right (And.right (And.right (by assumption))))))))) | exact And.left (And.right (And.right (And.right (And.right (And.right (And.right (And.right (And.right (And.right (by assumption)))))))))) | exact And.left (And.right (And.right (And.right (And.right (And.right (And.right (And.right (And.right (And.right (And.right (by assumption))))))))))) | exact And.left (And.right (And.right (And.right (And.right (And.right (And.right (And.right (And.right (And.right (And.right (And.right (by assumption)))))))))))) | exact And.left (And.right (And.right (And.right (And.right (And.right (And.right (And.right (And.right (And.right (And.right (And.right (And.right (by assumption))))))))))))) | exact And.left (And.right (And.right (And.right (And.right (And.right (And.right (And.right (And.right (And.right (And.right (And.right (And.right (And.right (by assumption)))))))))))))) | exact And.right (by assumption) | exact And.right (And.right (by assumption)) | exact And.right (And.right (And.right (by assumption))) | exact And.right (And.right (And.right (And.right (by assumption)))) | exact And.right (And.right (And.right (And.right (And.right (by assumption))))) | exact And.right (And.right (And.right (And.right (And.right (And.right (by assumption)))))) | exact And.right (And.right (And.right (And.right (And.right (And.right (And.right (by assumption))))))) | exact And.right (And.right (And.right (And.right (And.right (And.right (And.right (And.right (by assumption)))))))) | exact And.right (And.right (And.right (And.right (And.right (And.right (And.right (And.right (And.right (by assumption))))))))) | exact And.right (And.right (And.right (And.right (And.right (And.right (And.right (And.right (And.right (And.right (by assumption)))))))))) | exact And.right (And.right (And.right (And.right (And.right (And.right (And.right (And.right (And.right (And.right (And.right (by assumption))))))))))) | exact And.right (And.right (And.right (And.right (And.right (And.right (And.right (And.right (And.right (And.right (And.right (And.right (by assumption)))))))))))) | exact And.right (And.right (And.right (And.right (And.right (And.right (And.right (And.right (And.right (And.right (And.right (And.right (And.right (by assumption))))))))))))))
  k_with "proj" => (first
    | (with_reducible assumption)
    | ((with_reducible show @Ne Nat _ _); (with_reducible first
      | (refine Nat.ne_of_gt ?_; k_extra "pj")
      | (refine Nat.ne_of_lt ?_; k_extra "pj")
      | (refine Nat.ne_of_gt (Nat.lt_trans ?_ (by assumption)); k_extra "pj")
      | (refine Nat.ne_of_lt (Nat.lt_trans ?_ (by assumption)); k_extra "pj")
      | k_extra "pj"
      | (refine Ne.symm ?_; k_extra "pj")
      | (first | exact And.left (And.left (by assumption)) | exact And.left (And.right (And.left (by assumption))) | exact And.right (And.right (And.left (by assumption))) | exact And.left (And.left (And.right (by assumption))) | exact And.left (And.right (And.left (And.right (by assumption)))) | exact And.right (And.right (And.left (And.right (by assumption)))) | exact And.left (And.left (And.right (And.right (by assumption)))) | exact And.left (And.right (And.left (And.right (And.right (by assumption))))) | exact And.right (And.right (And.left (And.right (And.right (by assumption))))) | exact And.left (And.left (And.right (And.right (And.right (by assumption))))) | exact And.left (And.right (And.left (And.right (And.right (And.right (by assumption)))))) | exact And.right (And.right (And.left (And.right (And.right (And.right (by assumption)))))) | exact And.left (And.left (And.right (And.right (And.right (And.right (by assumption)))))) | exact And.left (And.right (And.left (And.right (And.right (And.right (And.right (by assumption))))))) | exact And.right (And.right (And.left (And.right (And.right (And.right (And.right (by assumption))))))) | exact And.left (And.left (And.right (And.right (And.right (And.right (And.right (by assumption))))))) | exact And.left (And.right (And.left (And.right (And.right (And.right (And.right (And.right (by assumption)))))))) | exact And.right (And.right (And.left (And.right (And.right (And.right (And.right (And.right (by assumption)))))))))
      | (refine Ne.symm ?_; (first | exact And.left (And.left (by assumption)) | exact And.left (And.right (And.left (by assumption))) | exact And.right (And.right (And.left (by assumption))) | exact And.left (And.left (And.right (by assumption))) | exact And.left (And.right (And.left (And.right (by assumption)))) | exact And.right (And.right (And.left (And.right (by assumption)))) | exact And.left (And.left (And.right (And.right (by assumption)))) | exact And.left (And.right (And.left (And.right (And.right (by assumption))))) | exact And.right (And.right (And.left (And.right (And.right (by assumption))))) | exact And.left (And.left (And.right (And.right (And.right (by assumption))))) | exact And.left (And.right (And.left (And.right (And.right (And.right (by assumption)))))) | exact And.right (And.right (And.left (And.right (And.right (And.right (by assumption)))))) | exact And.left (And.left (And.right (And.right (And.right (And.right (by assumption)))))) | exact And.left (And.right (And.left (And.right (And.right (And.right (And.right (by assumption))))))) | exact And.right (And.right (And.left (And.right (And.right (And.right (And.right (by assumption))))))) | exact And.left (And.left (And.right (And.right (And.right (And.right (And.right (by assumption))))))) | exact And.left (And.right (And.left (And.right (And.right (And.right (And.right (And.right (by assumption)))))))) | exact And.right (And.right (And.left (And.right (And.right (And.right (And.right (And.right (by assumption))))))))))))
    | ((with_reducible show @LT.lt Nat _ _ _); (with_reducible k_extra "pj"))
    | ((with_reducible show @LE.le Nat _ _ _); (with_reducible first | exact Nat.le_refl _ | (refine Nat.le_of_lt ?_; k_extra "pj")))
    | ((with_reducible refine And.intro ?_ ?_) <;> omega)
    | (with_reducible (first | assumption | exact And.left (by assumption) | exact And.left (And.right (by assumption)) | exact And.left (And.right (And.right (by assumption))) | exact And.right (by assumption) | exact And.right (And.right (by assumption)))))
  k_with "updF" => k_dflt (rename Ap _ _ => hAp9; first | exact upd0 hAp9 | exact upd1 hAp9 | exact upd2 hAp9 | exact upd3 hAp9 | exact upd4 hAp9 | exact upd5 hAp9 | exact upd6 hAp9 | exact upd7 hAp9 | exact upd8 hAp9 | exact upd9 hAp9 | exact upd10 hAp9 | exact upd11 hAp9 | exact upd12 hAp9 | exact upd13 hAp9 | exact upd14 hAp9 | exact upd15 hAp9)
  k_with "upd" => k_dflt (rename Ap _ _ => hAp9; first | exact upe0 hAp9 | exact upe1 hAp9 | exact upe2 hAp9 | exact upe3 hAp9 | exact upe4 hAp9 | exact upe5 hAp9 | exact upe6 hAp9 | exact upe7 hAp9 | exact upe8 hAp9 | exact upe9 hAp9 | exact upe10 hAp9 | exact upe11 hAp9 | exact upe12 hAp9 | exact upe13 hAp9 | exact upe14 hAp9 | exact upe15 hAp9)
  k_with "lt" => ((rename (∀ p ∈ _, _ < _) => hL9); (try (rename Ap _ _ => hAp9; have hRaw := hL9; have hAp := Ap.push hAp9 hL9 rfl)); replace hL9 := allLt_of hL9; dsimp only [AllLt] at hL9)
  k_with "lt2" => ((with_reducible rename @LT.lt Nat _ _ _ => hL8); replace hL8 := ltN hL8; (try (rename Ap _ _ => hAp9; rename (∀ p ∈ _, _ < _) => hRaw9; have hAp := Ap.push2 hAp9 hRaw9 rfl hL8)))
  k_with "all" => (first | exact allLt_ne (by assumption) (by omega) | exact lt_neG (by assumption) (by omega))
  k_with "allmem" => (first | (with_reducible exact List.forall_mem_nil _) | ((with_reducible refine List.forall_mem_cons.mpr (And.intro ?_ ?_)); (focus k_mem); walk_at "allmem") | (intro p hp; (repeat (first | exact hp | apply List.mem_cons_of_mem)); done))
  k_with "storeName int" => k_dflt (refine' store_int ?gqF ?gqN ?_ ?gqa ?gqb; (case gqF => k_asm); (case gqN => k_asm); (case gqa => rfl); (case gqb => rfl); k_whole; intro t' h' tk' F' N'; (try k_sweep))
  k_with "storeName" => k_dflt (refine' store_any ?gqF ?gqN ?_ ?gqa ?gqb; (case gqF => k_asm); (case gqN => k_asm); (case gqa => rfl); (case gqb => rfl); k_whole; intro h' tk' F' N'; (try k_sweep))
  k_with "newTuple" => (k_dflt (first
    | (refine' tup_2 ?gqF ?gqN ?_; (case gqF => k_asm); (case gqN => k_asm); k_whole; intro t1' t2' D' h' tk' F' N' l1)
    | (refine' tup_3 ?gqF ?gqN ?_; (case gqF => k_asm); (case gqN => k_asm); k_whole; intro t1' t2' t3' D' h' tk' F' N' l1)
    | (refine' tup_any ?gqF ?gqN ?_ ?gqz; (case gqF => k_asm); (case gqN => k_asm); (case gqz => exact Nat.le_of_ble_eq_true rfl); k_whole; intro D' h' tk' F' N' l1)); (try k_lt l1); (try k_sweep))
  k_with "newList" => (k_dflt (first
    | (refine' list_4 ?gqF ?gqN ?_; (case gqF => k_asm); (case gqN => k_asm); k_whole; intro t1' t2' t3' t4' D' h' tk' F' N' l1)
    | (refine' list_1 ?gqF ?gqN ?_; (case gqF => k_asm); (case gqN => k_asm); k_whole; intro t1' D' h' tk' F' N' l1)
    | (refine' list_any ?gqF ?gqN ?_ ?gqz; (case gqF => k_asm); (case gqN => k_asm); (case gqz => exact Nat.le_of_ble_eq_true rfl); k_whole; intro D' h' tk' F' N' l1)); (try k_lt l1); (try k_sweep))
  k_with "exec Assign cons Call" => k_fold
  k_with "exec Assign cons Tuple" => k_fold
  k_with "exec If BoolOp cons nil" => k_fold
  k_with "exec If UnaryOp cons nil" => k_fold
  k_with "exec If Compare cons nil" => k_fold
  k_with "exec Assign cons BinOp" => k_fold
  k_with "exec Expr Call" => k_fold
  k_with "exec Assign cons Compare" => k_fold
  k_with "exec Assign cons Subscript" => k_fold
  k_with "exec If Name cons nil" => k_fold
  k_with "gx" => k_dflt (first
    | exact gv_int
    | (refine' gv_name ?gqF ?gqv ?gqa ?gqb ?gqc; (case gqF => k_asm); (case gqa => rfl); (case gqb => rfl); (case gqv => exact @rfl _ (some _)); (case gqc => decide))
    | (refine' gv_cell ?gqN ?gqc ?gqm ?gqd ?gqa ?gqb ?gqe; (case gqa => rfl); (case gqb => rfl); (case gqN => k_asm); (case gqc => rfl); (case gqm => k_mem); (case gqd => k_asm); (case gqe => decide))
    | (refine' gv_glob ?gqF ?gqX ?gqT ?gqe ?gqa ?gqb ?gqc; (case gqF => k_asm); (case gqX => k_asm); (case gqT => k_asm); (case gqa => rfl); (case gqb => rfl); (case gqe => k_is); (case gqc => decide))
    | (refine' gv_add ?gqg ?gqh; (case gqg => k_extra "gx"); (case gqh => k_extra "gx"))
    | (refine' gv_sub ?gqg ?gqh; (case gqg => k_extra "gx"); (case gqh => k_extra "gx"))
    | (refine' gv_attr ?gqg ?gqk1 ?gqk2 ?gqk3 ?gqk4 ?gqk5 ?gqk6 ?gqk7 ?gqk8 ?gqk9 ?gqe; (case gqg => k_extra "gx"); (case gqk1 => k_asm); (case gqk2 => k_asm); (case gqk3 => k_inst); (case gqk4 => k_is); (case gqk5 => k_is); (case gqk6 => k_is); (case gqk7 => k_is); (case gqk8 => k_get); (case gqk9 => k_handed); (case gqe => with_unfolding_all rfl)))
  k_with "gl" => k_dflt (first
    | exact gl_nil
    | (refine' gl_cons ?gqg ?gqh ?gqe; (case gqe => rfl); (case gqg => k_extra "gx"); (case gqh => k_extra "gl")))
  k_with "callWith ref" => (k_dflt (refine' callWith_gv ?gqX ?gqF ?gqk ?gqg ?_ ?gqe ?gqp; (case gqX => k_asm); (case gqF => k_asm); (case gqk => k_is); (case gqe => rfl); (case gqp => rfl); (case gqg => k_extra "gl"); k_whole); (try dsimp only [List.nil_append, List.cons_append]))
  k_with "eval Call Name cons nil" => k_dflt (refine' call_gv ?gqX ?gqF ?gqf ?gqk ?gqg ?_ ?gqc ?gqe ?gqp; (case gqX => k_asm); (case gqF => k_asm); (case gqc => rfl); (case gqe => rfl); (case gqp => rfl); (case gqf => k_extra "gx"); (case gqk => k_is); (case gqg => k_extra "gl"); k_whole)
  k_with "eval Name" => k_dflt (refine' nameX_L ?gqF ?gqv ?_ ?gqa ?gqb ?gqc; (case gqF => k_asm); (case gqa => rfl); (case gqb => rfl); (case gqv => exact @rfl _ (some _)); (case gqc => decide); k_whole)
  k_with "spliced" => (k_dflt (refine' spliced_gv ?gqg ?_; (case gqg => k_extra "gl"); k_whole); (try dsimp only [List.nil_append, List.cons_append]))
  k_with "eval BinOp" => k_dflt (refine' eval_gv ?gqg ?_; (case gqg => k_extra "gx"); k_whole)
  k_with "eval Attribute Name" => k_dflt (refine' eval_gv ?gqg ?_; (case gqg => k_extra "gx"); k_whole)
  k_with "cmp" => k_dflt (first
    | ((with_reducible show wpAny _ _ (isTrue (Expr.Compare _ [CmpOp.Lt] [_] _) _ _) _ _ _); refine' ts_lt ?gqg ?gqh ?_ ?gqm; (case gqm => with_unfolding_all rfl); (case gqg => k_extra "gx"); (case gqh => k_extra "gx"); k_whole)
    | ((with_reducible show wpAny _ _ (isTrue (Expr.Compare _ [CmpOp.LtE] [_] _) _ _) _ _ _); refine' ts_le ?gqg ?gqh ?_ ?gqm; (case gqm => with_unfolding_all rfl); (case gqg => k_extra "gx"); (case gqh => k_extra "gx"); k_whole)
    | ((with_reducible show wpAny _ _ (isTrue (Expr.Compare _ [CmpOp.Gt] [_] _) _ _) _ _ _); refine' ts_gt ?gqg ?gqh ?_ ?gqm; (case gqm => with_unfolding_all rfl); (case gqg => k_extra "gx"); (case gqh => k_extra "gx"); k_whole)
    | ((with_reducible show wpAny _ _ (isTrue (Expr.Compare _ [CmpOp.GtE] [_] _) _ _) _ _ _); refine' ts_ge ?gqg ?gqh ?_ ?gqm; (case gqm => with_unfolding_all rfl); (case gqg => k_extra "gx"); (case gqh => k_extra "gx"); k_whole)
    | ((with_reducible show wpAny _ _ (isTrue (Expr.Compare _ [CmpOp.Eq] [_] _) _ _) _ _ _); refine' ts_eq ?gqg ?gqh ?_ ?gqm; (case gqm => with_unfolding_all rfl); (case gqg => k_extra "gx"); (case gqh => k_extra "gx"); k_whole)
    | ((with_reducible show wpAny _ _ (isTrue (Expr.Compare _ [CmpOp.NotEq] [_] _) _ _) _ _ _); refine' ts_ne ?gqg ?gqh ?_ ?gqm; (case gqm => with_unfolding_all rfl); (case gqg => k_extra "gx"); (case gqh => k_extra "gx"); k_whole))
  k_with "isTrue Compare Name" => k_extra "cmp"
  k_with "isTrue Compare Constant" => k_extra "cmp"
  k_with "isTrue Compare BinOp" => k_extra "cmp"
  k_with "isTrue Compare Attribute" => k_extra "cmp"
  k_with "enter" => (refine' code_any ?k1 ?k2 ?k3 ?k4 ?k5 ?kA ?kF ?kK ?k6 ?k7 ?k8 ?k9 ?kB ?_ ?c2 ?c3 ?c4 ?c5; (case kA => exact rfl); (case kF => exact rfl); (case kK => first | exact rfl | assumption); (case k1 => k_asm); (case k2 => k_asm); (case k3 => k_asm); (case k4 => k_asm); (case k5 => k_asm); (case k6 => k_is); (case k7 => k_is); (case k8 => k_room); (case k9 => first | exact BindsTo.of_eq rfl | exact binds_K (by k_in) rfl (by k_is) rfl rfl rfl); (case c5 => decide); (case kB => exact locs rfl); (case c2 => exact rfl); (case c3 => exact rfl); (case c4 => exact rfl); k_whole; intro g' L' h' tk' FG' F' N' B' X' T'; (try dsimp only); (try k_lift B'); (try k_fold))
  k_with "clsnew" => k_dflt (refine' call_cls ?k1 ?k2 ?k3 ?k4 ?k5 ?k6 ?_; (case k1 => k_asm); (case k2 => k_asm); (case k3 => k_asm); (case k4 => k_is); (case k5 => k_is); (case k6 => k_is); k_whole; intro x' d' h' F' N' l1 l2; (try k_lt l1); (try k_lt2 l2); (try k_sweep); k_extra "enter")
  k_fill
  intro mean mg mb dp un gd cn cs a ccd cl outer A₀ base h₀ L m s Q E B F X N T hk hd hu hret
  have hAp0 := Ap.open4 ho hn4 hn5 hn6 hn1 hn2 hn3
  refine wpAny_call ?_
  k_dflt (k_extra "enter")
  k_with "exec For Name Call cons nil" => (k_here; (rename Fr _ _ _ _ => lF'); (with_unfolding_all refine' For_invVF lF' ?k1 ?k2 ?_; (case k1 => exact rfl); (case k2 => exact rfl); k_whole))
  k_with "compareOp Eq ref ref" => k_dflt (refine eq_lists (Z := Z) (by k_asm) (by k_mem) (by k_mem) (by walk_at "allmem") ht1 ht2 (by ktr_units) ?_)
  k_with "call builtin:len" => ((with_reducible show wpAny _ _ (call (Value.builtin _) [Value.ref _]) _ _ _); k_dflt (refine len_st (by k_asm) (by k_mem) (by exact rfl) (by omega) ?_); intro t' tk')
  k_with "call builtin:sum" => ((with_reducible show wpAny _ _ (call (Value.builtin _) [Value.ref _]) _ _ _); k_dflt (refine sum_dr hoc (by exact rfl) (by k_asm) (by k_asm) (by assumption) ?_); intro h' tk' t' F' N'; (try dsimp only at N'))
  k_with "CompEnd" => (k_dflt (refine LCg.CompEnd.intro (by k_asm) (by k_asm) _ (fun p hp => hp) (by first | assumption | (simp only [LCg.Off3, and_true]; assumption)) (Or.inr ⟨_, by k_mem, by rfl, _, by rfl⟩) ⟨_, rfl, rfl⟩))
  k_with "SrcLP" => k_dflt (
    refine LCp.SrcLP.ledger (by rfl) (by k_asm) (by k_asm) (by k_mem) (by rw [PySem.sizeLine_eq, List.size_toArray]; omega) ?_
    intro g'
    refine sizes_comp (Z := Z) ht2 (by walk_at "allmem") (by rfl) (fun a' b' t' u' ys' I' oI' C' oC' D' m' h' tk' E' hC' hx' hx2' F' N' off' ne' => ?_) (fun ys' hI' => ?_)
    all_goals (try (simp only [LCg.Off3, and_true] at off')))
  k_with "call ref" => k_dflt (
    (with_reducible show wpAny _ _ (call (Value.ref 187) _) _ _ _)
    refine' take_use ?k1 ?k2 ?k3 ?k4 ?k5 ?kK ?kU ?hb ?hm ?hm' ?ht ?ht' ?kd ?ku ?_
    (case k1 => k_asm)
    (case k2 => k_asm)
    (case k3 => k_asm)
    (case k5 => k_asm)
    (case k4 => k_asm)
    (case kU => k_updF)
    (case hb => assumption)
    (case hm => assumption)
    (case hm' => assumption)
    (case ht => decide)
    (case ht' => decide)
    (case kK => first | exact rfl | assumption)
    (case kd => first | exact room1 (by assumption) (by decide) | exact room2 (by assumption) (by decide) | ktr_room)
    (case ku => first | exact room1 (by assumption) (by decide) | exact room2 (by assumption) (by decide) | ktr_units)
    intro b9 m9 d9 t91 t92 t93 n9 h9 tk9 hd91 hd92 hb9 hm91 hm92 F9 N9
    (try dsimp only at N9)
    (try dsimp only)
    (try k_fold)
    skip)
  k_with "pyIter ref" => k_dflt (
    (rename Ap _ _ => hAp9)
    refine queue_loop3 ⟨sa, _, _, _, _, _, _, _, c, ba, shift, room, _, _, ((c, instObj 120 dc) :: (dc, curveObj w k1 k2 k3 low t1 high t2 most t3) :: (ba, { cls := .type "tuple", data := .seq #[.int low u5, .int high u6, .int most u7] n2 }) :: rest)⟩ ⟨_, _, 0, 0, 0, _, _, _, _, _, _, 0, _, _, _, _, _, _, _, _, _, _, _, _, _, [], [], [.int 0 _], [0], [], [], fun _ => none⟩ (by rfl) (by assumption) (small_one (by omega) (by omega) (by omega) (by omega)) (rangeSize_toNat _) (by k_asm) (by k_asm) (by exact ⟨⟨_, @rfl _ (some _)⟩, @rfl _ (some _), @rfl _ (some _), @rfl _ (some _), @rfl _ (some _), @rfl _ (some _), @rfl _ (some _), @rfl _ (some _), @rfl _ (some _), @rfl _ (some _)⟩) (by (dsimp only [qL, List.nil_append]; walk_at "allmem")) (QJ.start (by assumption) (by assumption) (by assumption) (by dsimp only; omega) (by assumption) (by assumption) rfl rfl rfl rfl rfl rfl rfl rfl) rfl (by first | exact Ap.fewer (j := 3) hAp9 | exact Ap.fewer (j := 3) (Ap.pop hAp9)) (by (dsimp only [qP]; exact List.forall_mem_cons.mpr ⟨fun h => absurd rfl h, List.forall_mem_cons.mpr ⟨fun _ => by omega, List.forall_mem_cons.mpr ⟨fun _ => by omega, List.forall_mem_cons.mpr ⟨fun _ => by omega, List.forall_mem_cons.mpr ⟨fun _ => by omega, List.forall_mem_cons.mpr ⟨fun _ => by omega, List.forall_mem_cons.mpr ⟨fun _ => by omega, List.forall_mem_cons.mpr ⟨fun _ => by omega, List.forall_mem_nil _⟩⟩⟩⟩⟩⟩⟩⟩)) (by omega) ?_ ?_ ?_ ?_
    focus
      intro k t h tk Z c R e1 e2 hA hb hm hm' F2 N2 hR
      exact qnone_ok w _ rfl _ _ rfl _ c (by k_asm) (by k_asm) (by k_asm) (by first | exact room2 hd (by decide) | exact room1 hd (by decide) | ktr_room) (by first | exact room2 hu (by decide) | exact room1 hu (by decide) | ktr_units) F2 N2 e1 e2 hA hb hm hm' hR
    focus
      intro k t h tk Z c a1 a2 s1 i1 w1 w2 w3 w4 c1 c2 v1 v2 xs R e1 e2 hA hb hm hm' hl1 hl2 hT F2 N2 hR1 hR2
      exact qsome_ok w _ rfl _ _ rfl _ c (by k_asm) (by k_asm) (by k_asm) (by first | exact room2 hd (by decide) | exact room1 hd (by decide) | ktr_room) (by first | exact room2 hu (by decide) | exact room1 hu (by decide) | ktr_units) F2 N2 e1 e2 hA hb hm hm' hl1 hl2 hT hR1 hR2
    focus
      intro k t h tk Z c R hk0 hk1 hA hfz hTZ hJ F2 N2 hR
      exact qturn_ok w _ rfl _ _ rfl _ c (by k_asm) (by k_asm) (by k_asm) (by first | exact room2 hd (by decide) | exact room1 hd (by decide) | ktr_room) (by first | exact room2 hu (by decide) | exact room1 hu (by decide) | ktr_units) F2 N2 hs0 hs1 h0 h1 h2 h3 h4 hr0 hr1 (hfz _ (.head _)) (hfz _ (.tail _ (.head _))) (hfz _ (.tail _ (.tail _ (.head _)))) hn1 hk0 hk1 hA hTZ hJ hR
    intro h tk Z c9 hfz hTZ hJ F2 N2
    obtain ⟨b, m, p, oc, dd, u3, u4, kA, kB, tS, tP, tp, j1, j2, j3, j4, j5, r1, r2, r3, r4, n1, nv1, nv2, nt, v1, v2, tv, tlv, xs, tups, u⟩ := c9
    have hb2 : 0 ≤ b := hJ.hb
    have hm2 : 0 ≤ m := hJ.hm
    have hm2' : m < 2147483647 := hJ.hm'
    have hoc : oc = tot xs := hJ.hoc
    have ht1 : Tups Z v1 xs := hJ.t1.mono hTZ
    have ht2 : Tups Z v2 xs := hJ.t2.mono hTZ
    have hlb1 : v1.length < 20 := (hJ.bounds (by omega)).1
    have hlb2 : v2.length < 20 := (hJ.bounds (by omega)).2.1
    dsimp only [qL, qM] at F2 N2)
  k_with "call ref" => k_dflt (
    (with_reducible show wpAny _ _ (call (Value.ref 85) _) _ _ _)
    refine' avg_new ?k1 ?k2 ?k3 ?k4 ?k5 ?kK  ?kd ?ku ?_
    (case k1 => k_asm)
    (case k2 => k_asm)
    (case k3 => k_asm)
    (case k5 => k_asm)
    (case k4 => k_asm)
    (case kK => first | exact rfl | assumption)
    (case kd => first | exact room1 (by assumption) (by decide) | exact room2 (by assumption) (by decide) | ktr_room)
    (case ku => first | exact room1 (by assumption) (by decide) | exact room2 (by assumption) (by decide) | ktr_units)
    intro x9 d9 k19 k29 t19 t29 h9 tk9 l19 l29 F9 N9
    (try k_lt l19)
    (try k_lt2 l29)
    (try dsimp only at N9)
    (try dsimp only)
    (try k_fold)
    skip)
  k_steps
  (try dsimp only)
  (refine hret _ _ _ _ ⟨by simp, _, _, _, _, _, hb2, hm2, hm2', rfl⟩ (by k_asm) (news_sub (by k_asm) (List.forall_mem_cons.mpr ⟨by k_mem, fun p hp => ?_⟩)))
  have hz := hfz p hp
  repeat (first | exact hz | apply List.mem_cons_of_mem)
end
section
open PySem PySem.W PySem.Calls PyProof.Rows
set_option maxRecDepth 100000
set_option linter.unusedVariables false
-- told by its contract

theorem min_pred {a b n : Nat} (h1 : a = n) (h2 : b = n - 1) : min a b = n - 1 := by rw [h1, h2]; exact Nat.min_eq_right (Nat.sub_le n 1)
theorem comes_back {level : Int} {n k k' : Nat} {ol : List Int} (h : ComesOk level n ol) (hf : (List.range k).all (leAt ol) = false) (hk : k = n - 1) (hk' : k' = n - 1) : (List.range k').all (geAt ol) = true := by
  subst hk hk'
  have := h.two
  rcases comes_end h (k := n - 1) (by omega) with q | q
  · rw [q] at hf; cases hf
  · exact q

theorem comes_comp {prog : Program} {w : World} {A : Around} {h₀ : Heap} {L : Addr} {m : Str → Option Value} {env : Env} {elt : Expr} {y : Str} {scope : Scope} {cl : List (Str × Addr)} {s : Shared} {S : List (Addr × Obj) → Prop} {P : Nat → Value → Prop} {Fin : List Value → List (Addr × Obj) → Prop}
    {n : Nat} {x d : Addr} {k1 k2 t1 t2 : Tok} {sh p : Int} {rest : List (Addr × Obj)} (level : Int) (h0 : 0 ≤ sh) (h1 : sh < 4) (hp : 0 ≤ p) (hp' : p < 10) (hl : 0 ≤ level) (hl' : level < 10) (hn : (n : Int) = 10 * 2 ^ sh.toNat + 2)
    (turn : ∀ (p : Int) (t2 : Tok) v ys I oI C oC D m₂ h tk (E' : Value → Shared → Prop), 0 ≤ p → p < 1000 → LCg.NsObj oC m₂ → m₂ y = some v → Fr h₀ L h m → News h₀ L h ((I, oI) :: (C, oC) :: (D, LCg.lst ys) :: (x, instObj 85 d) :: (d, avgObj w k1 k2 sh t1 p t2) :: rest) → LCg.Off3 I C D ((x, instObj 85 d) :: (d, avgObj w k1 k2 sh t1 p t2) :: rest) → ((@Ne Nat I C) ∧ (@Ne Nat I D) ∧ (@Ne Nat C D)) →
      wpAny (model prog w) A (eval elt (compEnvC scope cl C env)) (LCg.CompEnd h₀ L m { s with heap := h, toks := tk } I oI C oC D (LCg.lst ys) S (fun y news' => ∃ (t3 t : Tok), news' = (x, instObj 85 d) :: (d, avgObj w k1 k2 sh t1 (avgStep sh p level) t3) :: rest ∧ y = .int (avgVal sh (avgStep sh p level)) t)) E' { s with heap := h, toks := tk })
    (fin : ∀ q t3 ys ol, ComesOk level n ol → IntsAre ys ol → Fin ys ((x, instObj 85 d) :: (d, avgObj w k1 k2 sh t1 q t3) :: rest)) :
    LCg.CompRest prog w A h₀ L m env elt y scope cl s S P Fin n 0 [] ((x, instObj 85 d) :: (d, avgObj w k1 k2 sh t1 p t2) :: rest) := by
  refine comp_state (σ := Int × Tok) (fun c => (x, instObj 85 d) :: (d, avgObj w k1 k2 sh t1 c.1 c.2) :: rest) (fun i c l => c.1 = avgIter sh level p i ∧ l = avgOuts sh level p i) ?_ ?_ (p, t2) ⟨rfl, rfl⟩
  · rintro i v ⟨q, t2⟩ l ys I oI C oC D m₂ h tk E' hi hv ⟨hq, rfl⟩ hy hC hx F N off ne
    dsimp only at hq
    have hb := avgIter_bounds h0 h1 hp hp' hl hl' i
    rw [← hq] at hb
    have hc := pow_cases h0 h1
    refine wpAny_mono (turn q t2 v ys I oI C oC D m₂ h tk E' hb.1 (by omega) hC hx F N off ne) (fun y s₂ hz => compEnd_mono (fun nw hr => ?_) hz) fun _ _ e => e
    obtain ⟨t3, t, rfl, rfl⟩ := hr
    refine ⟨(avgStep sh q level, t3), _, t, rfl, rfl, ?_, ?_⟩
    · show avgStep sh q level = avgIter sh level p (i + 1)
      rw [hq]; rfl
    · rw [avgOuts_succ, hq]; rfl
  · rintro ⟨q, t2⟩ l ys ⟨hq, rfl⟩ hy
    dsimp only at hq
    exact fin q t2 ys _ (comesOk h0 h1 hp hp' hl hl' hn) hy

set_option maxHeartbeats 1000000 in
theorem comes_ok (w : World) (shift first level : Int) (t1 t2 t3 : Tok) (news : List (Addr × Obj))
    (h0 : 0 ≤ shift) (h1 : shift < 4) (h2 : 0 ≤ first) (h3 : first < 10) (h4 : 0 ≤ level) (h5 : level < 10) :
    Claim w 4 209 [.int shift t1, .int first t2, .int level t3] news (fun r news' => r = .bool true ∧ news' = news) := by
  unfold Claim
  k_with_none
  w_top off
  k_with "om" => (first | k_extra "proj" | lia | omega (config := {}))
  k_with "pj" => (first | assumption | exact And.left (by assumption) | exact And.left (And.right (by assumption)) | exact And.left (And.right (And.right (by assumption))) | exact And.left (And.right (And.right (And.right (by assumption)))) | exact And.left (And.right (And.right (And.right (And.right (by assumption))))) | exact And.left (And.right (And.right (And.right (And.right (And.right (by assumption)))))) | exact And.left (And.right (And.right (And.right (And.right (And.right (And.right (by assumption))))))) | exact And.left (And.right (And.right (And.right (And.right (And.right (And.right (And.right (by assumption)))))))) | exact And.left (And.right (And.right (And.right (And.right (And.right (And.right (And.right (And.right (by assumption))))))))) | exact And.left (And.right (And.right (And.right (And.right (And.right (And.right (And.right (And.right (And.right (by assumption)))))))))) | exact And.left (And.right (And.right (And.right (And.right (And.right (And.right (And.right (And.right (And.right (And.right (by assumption))))))))))) | exact And.left (And.right (And.right (And.right (And.right (And.right (And.right (And.right (And.right (And.right (And.right (And.right (by assumption)))))))))))) | exact And.left (And.right (And.right (And.right (And.right (And.right (And.right (And.right (And.right (And.right (And.right (And.right (And.right (by assumption))))))))))))) | exact And.left (And.right (And.right (And.right (And.right (And.right (And.right (And.right (And.right (And.right (And.right (And.right (And.right (And.right (by assumption)))))))))))))) | exact And.right (by assumption) | exact And.right (And.right (by assumption)) | exact And.right (And.right (And.right (by assumption))) | exact And.right (And.right (And.right (And.right (by assumption)))) | exact And.right (And.right (And.right (And.right (And.right (by assumption))))) | exact And.right (And.right (And.right (And.right (And.right (And.right (by assumption)))))) | exact And.right (And.right (And.right (And.right (And.right (And.right (And.right (by assumption))))))) | exact And.right (And.right (And.right (And.right (And.right (And.right (And.right (And.right (by assumption)))))))) | exact And.right (And.right (And.right (And.right (And.right (And.right (And.right (And.right (And.right (by assumption))))))))) | exact And.right (And.right (And.right (And.right (And.right (And.right (And.right (And.right (And.right (And.right (by assumption)))))))))) | exact And.right (And.right (And.right (And.right (And.right (And.right (And.right (And.right (And.right (And.right (And.right (by assumption))))))))))) | exact And.right (And.right (And.right (And.right (And.right (And.right (And.right (And.right (And.right (And.right (And.right (And.right (by assumption)))))))))))) | exact And.right (And.right (And.right (And.right (And.right (And.right (And.right (And.right (And.right (And.right (And.right (And.right (And.right (by assumption))))))))))))))
  k_with "proj" => (first
    | (with_reducible assumption)
    | ((with_reducible show @Ne Nat _ _); (with_reducible first
      | (refine Nat.ne_of_gt ?_; k_extra "pj")
      | (refine Nat.ne_of_lt ?_; k_extra "pj")
      | (refine Nat.ne_of_gt (Nat.lt_trans ?_ (by assumption)); k_extra "pj")
      | (refine Nat.ne_of_lt (Nat.lt_trans ?_ (by assumption)); k_extra "pj")
      | k_extra "pj"
      | (refine Ne.symm ?_; k_extra "pj")
      | (first | exact And.left (And.left (by assumption)) | exact And.left (And.right (And.left (by assumption))) | exact And.right (And.right (And.left (by assumption))) | exact And.left (And.left (And.right (by assumption))) | exact And.left (And.right (And.left (And.right (by assumption)))) | exact And.right (And.right (And.left (And.right (by assumption)))) | exact And.left (And.left (And.right (And.right (by assumption)))) | exact And.left (And.right (And.left (And.right (And.right (by assumption))))) | exact And.right (And.right (And.left (And.right (And.right (by assumption))))) | exact And.left (And.left (And.right (And.right (And.right (by assumption))))) | exact And.left (And.right (And.left (And.right (And.right (And.right (by assumption)))))) | exact And.right (And.right (And.left (And.right (And.right (And.right (by assumption)))))) | exact And.left (And.left (And.right (And.right (And.right (And.right (by assumption)))))) | exact And.left (And.right (And.left (And.right (And.right (And.right (And.right (by assumption))))))) | exact And.right (And.right (And.left (And.right (And.right (And.right (And.right (by assumption))))))) | exact And.left (And.left (And.right (And.right (And.right (And.right (And.right (by assumption))))))) | exact And.left (And.right (And.left (And.right (And.right (And.right (And.right (And.right (by assumption)))))))) | exact And.right (And.right (And.left (And.right (And.right (And.right (And.right (And.right (by assumption)))))))))
      | (refine Ne.symm ?_; (first | exact And.left (And.left (by assumption)) | exact And.left (And.right (And.left (by assumption))) | exact And.right (And.right (And.left (by assumption))) | exact And.left (And.left (And.right (by assumption))) | exact And.left (And.right (And.left (And.right (by assumption)))) | exact And.right (And.right (And.left (And.right (by assumption)))) | exact And.left (And.left (And.right (And.right (by assumption)))) | exact And.left (And.right (And.left (And.right (And.right (by assumption))))) | exact And.right (And.right (And.left (And.right (And.right (by assumption))))) | exact And.left (And.left (And.right (And.right (And.right (by assumption))))) | exact And.left (And.right (And.left (And.right (And.right (And.right (by assumption)))))) | exact And.right (And.right (And.left (And.right (And.right (And.right (by assumption)))))) | exact And.left (And.left (And.right (And.right (And.right (And.right (by assumption)))))) | exact And.left (And.right (And.left (And.right (And.right (And.right (And.right (by assumption))))))) | exact And.right (And.right (And.left (And.right (And.right (And.right (And.right (by assumption))))))) | exact And.left (And.left (And.right (And.right (And.right (And.right (And.right (by assumption))))))) | exact And.left (And.right (And.left (And.right (And.right (And.right (And.right (And.right (by assumption)))))))) | exact And.right (And.right (And.left (And.right (And.right (And.right (And.right (And.right (by assumption))))))))))))
    | ((with_reducible show @LT.lt Nat _ _ _); (with_reducible k_extra "pj"))
    | ((with_reducible show @LE.le Nat _ _ _); (with_reducible first | exact Nat.le_refl _ | (refine Nat.le_of_lt ?_; k_extra "pj")))
    | ((with_reducible refine And.intro ?_ ?_) <;> omega)
    | (with_reducible (first | assumption | exact And.left (by assumption) | exact And.left (And.right (by assumption)) | exact And.left (And.right (And.right (by assumption))) | exact And.right (by assumption) | exact And.right (And.right (by assumption)))))
  k_with "updF" => k_dflt (rename Ap _ _ => hAp9; first | exact upd0 hAp9 | exact upd1 hAp9 | exact upd2 hAp9 | exact upd3 hAp9 | exact upd4 hAp9 | exact upd5 hAp9 | exact upd6 hAp9 | exact upd7 hAp9 | exact upd8 hAp9 | exact upd9 hAp9 | exact upd10 hAp9 | exact upd11 hAp9 | exact upd12 hAp9 | exact upd13 hAp9 | exact upd14 hAp9 | exact upd15 hAp9)
  k_with "upd" => k_dflt (rename Ap _ _ => hAp9; first | exact upe0 hAp9 | exact upe1 hAp9 | exact upe2 hAp9 | exact upe3 hAp9 | exact upe4 hAp9 | exact upe5 hAp9 | exact upe6 hAp9 | exact upe7 hAp9 | exact upe8 hAp9 | exact upe9 hAp9 | exact upe10 hAp9 | exact upe11 hAp9 | exact upe12 hAp9 | exact upe13 hAp9 | exact upe14 hAp9 | exact upe15 hAp9)
  k_with "lt" => ((rename (∀ p ∈ _, _ < _) => hL9); (try (rename Ap _ _ => hAp9; have hRaw := hL9; have hAp := Ap.push hAp9 hL9 rfl)); replace hL9 := allLt_of hL9; dsimp only [AllLt] at hL9)
  k_with "lt2" => ((with_reducible rename @LT.lt Nat _ _ _ => hL8); replace hL8 := ltN hL8; (try (rename Ap _ _ => hAp9; rename (∀ p ∈ _, _ < _) => hRaw9; have hAp := Ap.push2 hAp9 hRaw9 rfl hL8)))
  k_with "all" => (first | exact allLt_ne (by assumption) (by omega) | exact lt_neG (by assumption) (by omega))
  k_with "allmem" => (first | (with_reducible exact List.forall_mem_nil _) | ((with_reducible refine List.forall_mem_cons.mpr (And.intro ?_ ?_)); (focus k_mem); walk_at "allmem") | (intro p hp; (repeat (first | exact hp | apply List.mem_cons_of_mem)); done))
  k_with "storeName int" => k_dflt (refine' store_int ?gqF ?gqN ?_ ?gqa ?gqb; (case gqF => k_asm); (case gqN => k_asm); (case gqa => rfl); (case gqb => rfl); k_whole; intro t' h' tk' F' N'; (try k_sweep))
  k_with "storeName" => k_dflt (refine' store_any ?gqF ?gqN ?_ ?gqa ?gqb; (case gqF => k_asm); (case gqN => k_asm); (case gqa => rfl); (case gqb => rfl); k_whole; intro h' tk' F' N'; (try k_sweep))
  k_with "newTuple" => (k_dflt (first
    | (refine' tup_2 ?gqF ?gqN ?_; (case gqF => k_asm); (case gqN => k_asm); k_whole; intro t1' t2' D' h' tk' F' N' l1)
    | (refine' tup_3 ?gqF ?gqN ?_; (case gqF => k_asm); (case gqN => k_asm); k_whole; intro t1' t2' t3' D' h' tk' F' N' l1)
    | (refine' tup_any ?gqF ?gqN ?_ ?gqz; (case gqF => k_asm); (case gqN => k_asm); (case gqz => exact Nat.le_of_ble_eq_true rfl); k_whole; intro D' h' tk' F' N' l1)); (try k_lt l1); (try k_sweep))
  k_with "newList" => (k_dflt (first
    | (refine' list_4 ?gqF ?gqN ?_; (case gqF => k_asm); (case gqN => k_asm); k_whole; intro t1' t2' t3' t4' D' h' tk' F' N' l1)
    | (refine' list_1 ?gqF ?gqN ?_; (case gqF => k_asm); (case gqN => k_asm); k_whole; intro t1' D' h' tk' F' N' l1)
    | (refine' list_any ?gqF ?gqN ?_ ?gqz; (case gqF => k_asm); (case gqN => k_asm); (case gqz => exact Nat.le_of_ble_eq_true rfl); k_whole; intro D' h' tk' F' N' l1)); (try k_lt l1); (try k_sweep))
  k_with "exec Assign cons Call" => k_fold
  k_with "exec Assign cons Tuple" => k_fold
  k_with "exec If BoolOp cons nil" => k_fold
  k_with "exec If UnaryOp cons nil" => k_fold
  k_with "exec If Compare cons nil" => k_fold
  k_with "exec Assign cons BinOp" => k_fold
  k_with "exec Expr Call" => k_fold
  k_with "exec Assign cons Compare" => k_fold
  k_with "exec Assign cons Subscript" => k_fold
  k_with "exec If Name cons nil" => k_fold
  k_with "gx" => k_dflt (first
    | exact gv_int
    | (refine' gv_name ?gqF ?gqv ?gqa ?gqb ?gqc; (case gqF => k_asm); (case gqa => rfl); (case gqb => rfl); (case gqv => exact @rfl _ (some _)); (case gqc => decide))
    | (refine' gv_cell ?gqN ?gqc ?gqm ?gqd ?gqa ?gqb ?gqe; (case gqa => rfl); (case gqb => rfl); (case gqN => k_asm); (case gqc => rfl); (case gqm => k_mem); (case gqd => k_asm); (case gqe => decide))
    | (refine' gv_glob ?gqF ?gqX ?gqT ?gqe ?gqa ?gqb ?gqc; (case gqF => k_asm); (case gqX => k_asm); (case gqT => k_asm); (case gqa => rfl); (case gqb => rfl); (case gqe => k_is); (case gqc => decide))
    | (refine' gv_add ?gqg ?gqh; (case gqg => k_extra "gx"); (case gqh => k_extra "gx"))
    | (refine' gv_sub ?gqg ?gqh; (case gqg => k_extra "gx"); (case gqh => k_extra "gx"))
    | (refine' gv_attr ?gqg ?gqk1 ?gqk2 ?gqk3 ?gqk4 ?gqk5 ?gqk6 ?gqk7 ?gqk8 ?gqk9 ?gqe; (case gqg => k_extra "gx"); (case gqk1 => k_asm); (case gqk2 => k_asm); (case gqk3 => k_inst); (case gqk4 => k_is); (case gqk5 => k_is); (case gqk6 => k_is); (case gqk7 => k_is); (case gqk8 => k_get); (case gqk9 => k_handed); (case gqe => with_unfolding_all rfl)))
  k_with "gl" => k_dflt (first
    | exact gl_nil
    | (refine' gl_cons ?gqg ?gqh ?gqe; (case gqe => rfl); (case gqg => k_extra "gx"); (case gqh => k_extra "gl")))
  k_with "callWith ref" => (k_dflt (refine' callWith_gv ?gqX ?gqF ?gqk ?gqg ?_ ?gqe ?gqp; (case gqX => k_asm); (case gqF => k_asm); (case gqk => k_is); (case gqe => rfl); (case gqp => rfl); (case gqg => k_extra "gl"); k_whole); (try dsimp only [List.nil_append, List.cons_append]))
  k_with "eval Call Name cons nil" => k_dflt (refine' call_gv ?gqX ?gqF ?gqf ?gqk ?gqg ?_ ?gqc ?gqe ?gqp; (case gqX => k_asm); (case gqF => k_asm); (case gqc => rfl); (case gqe => rfl); (case gqp => rfl); (case gqf => k_extra "gx"); (case gqk => k_is); (case gqg => k_extra "gl"); k_whole)
  k_with "eval Name" => k_dflt (refine' nameX_L ?gqF ?gqv ?_ ?gqa ?gqb ?gqc; (case gqF => k_asm); (case gqa => rfl); (case gqb => rfl); (case gqv => exact @rfl _ (some _)); (case gqc => decide); k_whole)
  k_with "spliced" => (k_dflt (refine' spliced_gv ?gqg ?_; (case gqg => k_extra "gl"); k_whole); (try dsimp only [List.nil_append, List.cons_append]))
  k_with "eval BinOp" => k_dflt (refine' eval_gv ?gqg ?_; (case gqg => k_extra "gx"); k_whole)
  k_with "eval Attribute Name" => k_dflt (refine' eval_gv ?gqg ?_; (case gqg => k_extra "gx"); k_whole)
  k_with "cmp" => k_dflt (first
    | ((with_reducible show wpAny _ _ (isTrue (Expr.Compare _ [CmpOp.Lt] [_] _) _ _) _ _ _); refine' ts_lt ?gqg ?gqh ?_ ?gqm; (case gqm => with_unfolding_all rfl); (case gqg => k_extra "gx"); (case gqh => k_extra "gx"); k_whole)
    | ((with_reducible show wpAny _ _ (isTrue (Expr.Compare _ [CmpOp.LtE] [_] _) _ _) _ _ _); refine' ts_le ?gqg ?gqh ?_ ?gqm; (case gqm => with_unfolding_all rfl); (case gqg => k_extra "gx"); (case gqh => k_extra "gx"); k_whole)
    | ((with_reducible show wpAny _ _ (isTrue (Expr.Compare _ [CmpOp.Gt] [_] _) _ _) _ _ _); refine' ts_gt ?gqg ?gqh ?_ ?gqm; (case gqm => with_unfolding_all rfl); (case gqg => k_extra "gx"); (case gqh => k_extra "gx"); k_whole)
    | ((with_reducible show wpAny _ _ (isTrue (Expr.Compare _ [CmpOp.GtE] [_] _) _ _) _ _ _); refine' ts_ge ?gqg ?gqh ?_ ?gqm; (case gqm => with_unfolding_all rfl); (case gqg => k_extra "gx"); (case gqh => k_extra "gx"); k_whole)
    | ((with_reducible show wpAny _ _ (isTrue (Expr.Compare _ [CmpOp.Eq] [_] _) _ _) _ _ _); refine' ts_eq ?gqg ?gqh ?_ ?gqm; (case gqm => with_unfolding_all rfl); (case gqg => k_extra "gx"); (case gqh => k_extra "gx"); k_whole)
    | ((with_reducible show wpAny _ _ (isTrue (Expr.Compare _ [CmpOp.NotEq] [_] _) _ _) _ _ _); refine' ts_ne ?gqg ?gqh ?_ ?gqm; (case gqm => with_unfolding_all rfl); (case gqg => k_extra "gx"); (case gqh => k_extra "gx"); k_whole))
  k_with "isTrue Compare Name" => k_extra "cmp"
  k_with "isTrue Compare Constant" => k_extra "cmp"
  k_with "isTrue Compare BinOp" => k_extra "cmp"
  k_with "isTrue Compare Attribute" => k_extra "cmp"
  k_with "enter" => (refine' code_any ?k1 ?k2 ?k3 ?k4 ?k5 ?kA ?kF ?kK ?k6 ?k7 ?k8 ?k9 ?kB ?_ ?c2 ?c3 ?c4 ?c5; (case kA => exact rfl); (case kF => exact rfl); (case kK => first | exact rfl | assumption); (case k1 => k_asm); (case k2 => k_asm); (case k3 => k_asm); (case k4 => k_asm); (case k5 => k_asm); (case k6 => k_is); (case k7 => k_is); (case k8 => k_room); (case k9 => first | exact BindsTo.of_eq rfl | exact binds_K (by k_in) rfl (by k_is) rfl rfl rfl); (case c5 => decide); (case kB => exact locs rfl); (case c2 => exact rfl); (case c3 => exact rfl); (case c4 => exact rfl); k_whole; intro g' L' h' tk' FG' F' N' B' X' T'; (try dsimp only); (try k_lift B'); (try k_fold))
  k_with "clsnew" => k_dflt (refine' call_cls ?k1 ?k2 ?k3 ?k4 ?k5 ?k6 ?_; (case k1 => k_asm); (case k2 => k_asm); (case k3 => k_asm); (case k4 => k_is); (case k5 => k_is); (case k6 => k_is); k_whole; intro x' d' h' F' N' l1 l2; (try k_lt l1); (try k_lt2 l2); (try k_sweep); k_extra "enter")
  k_with "call ref" => k_dflt (
    (with_reducible show wpAny _ _ (call (Value.ref 82) _) _ _ _)
    refine' told_u ?k1 ?k2 ?k3 ?k4 ?k5 ?kK ?kU ?kx ?kn ?h0 ?h1 ?h2 ?h3 ?h4 ?h5 ?kd ?ku ?_
    (case k1 => k_asm)
    (case k2 => k_asm)
    (case k3 => k_asm)
    (case k5 => k_asm)
    (case k4 => k_asm)
    (case kU => k_updF)
    (case kx => k_mem)
    (case kn => k_ne)
    (case h0 => omega)
    (case h1 => omega)
    (case h2 => omega)
    (case h3 => omega)
    (case h4 => omega)
    (case h5 => omega)
    (case kK => first | exact rfl | assumption)
    (case kd => first | exact room1 (by assumption) (by decide) | exact room2 (by assumption) (by decide) | ktr_room)
    (case ku => first | exact room1 (by assumption) (by decide) | exact room2 (by assumption) (by decide) | ktr_units)
    intro q9 v9 t9 t92 h9 tk9 hq9 hv9 F9 N9
    (try dsimp only at N9)
    (try dsimp only)
    (try k_fold)
    skip)
  k_fill
  intro mean mg mb dp un gd cn cs a ccd cl outer A₀ base h₀ L m s Q E B F X N T hk hd hu hret
  have hAp0 : Ap 0 (news.map Prod.fst) := trivial
  refine wpAny_call ?_
  k_dflt ((refine' code_defC ?k1 ?k2 ?k3 ?k4 ?k5 ?kA ?kF ?kK ?k6 ?k7 ?k8 ?k9 ?kB ?kD ?_ ?c2 ?c3 ?c4; (case kA => exact rfl); (case kF => exact rfl); (case kK => assumption); (case k1 => k_asm); (case k2 => k_asm); (case k3 => k_asm); (case k4 => k_asm); (case k5 => k_asm); (case k6 => k_is); (case k7 => k_is); (case k8 => ktr_room); (case k9 => exact BindsTo.of_eq rfl); (case kB => exact rfl); (case kD => decide +kernel); (case c2 => exact rfl); (case c3 => exact rfl); (case c4 => exact rfl); k_whole; intro g' L' h' tk' cells' FG' F' N' Y' B' X' T' l1; (try k_lt l1); k_cells Y'; (try simp only [List.cons_append, List.nil_append] at N'); (try dsimp only); (try k_lift B'); (try k_fold)))
  have hpw := pow_cases h0 h1
  obtain ⟨n, hn⟩ : ∃ n : Nat, (n : Int) = 10 * 2 ^ shift.toNat + 2 := ⟨(10 * 2 ^ shift.toNat + 2 : Int).toNat, by omega⟩
  k_with "CompSrc" =>
    k_dflt (
      refine LCg.CompSrc.range (n := n) (by rfl) (by k_asm) (by k_asm) (by assumption) (small_one (by omega) (by omega) (by omega) (by omega)) ((rangeSize_nat _ _).trans (by omega)) (by rw [PySem.sizeLine_eq]; omega) ?_
      intro g'
      refine' comes_comp level h0 h1 ?hp ?hp' h4 h5 hn (fun p' t2' v' ys' I' oI' C' oC' D' m' h' tk' E' hlo' hhi' hC' hx' F' N' off' ne' => ?_) (fun q' t3' ys' ol' hO' hI' => ?_)
      case hp => rw [Int.zero_fdiv]; omega
      case hp' => rw [Int.zero_fdiv]; omega
      all_goals (try (simp only [LCg.Off3, and_true] at off')))
  k_with "exec Assign cons ListComp" => (with_reducible show wpAny _ _ (exec (Stmt.Assign [_] (Expr.ListComp _ [⟨Expr.Tuple _ _ _, _, _, _⟩] _ _) _) _) _ _ _); k_dflt (refine Assign_zc (by k_asm) (by rfl) (by with_unfolding_all rfl) (by with_unfolding_all rfl) (by decide) (by rfl) (by decide) (by rfl) (by rfl) (by decide) (by rfl) (by rfl) ?_)
  k_with "subscriptTail Name Slice ref ref" => k_dflt (
    have hOs := hO'.small
    have hOt := hO'.two
    have hOl := hO'.len
    have hIl := hI'.length
    refine kmk_slice_ints (ns := ol') (ms := ol'.drop (1 : Int).toNat) (c := n - 1) (by k_asm) (by k_asm) (by kmk_list) (by kmk_part) (by kmk_part) (by assumption) (kmk_from (by assumption) (by decide)) (by rw [List.length_drop]; show ol'.length - 1 = n - 1; omega) ?_ (by with_unfolding_all rfl) (by kmk_pure) (by rw [List.size_toArray, PySem.sizeLine_eq]; omega)
    intro D' ws' h' F' N' l1 hW' hC' hL'
    have hWl := hW'.length
    (try k_lt l1); (try k_sweep))
  k_with "call type:zip" => k_dflt (
    have hOs := hO'.small
    have hOl := hO'.len
    have hIl := hI'.length
    first
    | refine zip_src (fun i => Value.bool (leAt ol' i)) (by rfl) (by k_asm) (by k_asm) (by k_mem) (by k_mem) (by omega) (zc_turn_le (ol := ol') (by assumption) (by assumption) (fun _ => rfl) (fun _ => rfl) (fun _ => rfl) (by decide) (by decide)) ?_
    | refine zip_src (fun i => Value.bool (geAt ol' i)) (by rfl) (by k_asm) (by k_asm) (by k_mem) (by k_mem) (by omega) (zc_turn_ge (ol := ol') (by assumption) (by assumption) (fun _ => rfl) (fun _ => rfl) (fun _ => rfl) (by decide) (by decide)) ?_
    intro D' h' tk' F' N' o1')
  k_with "compareOp NotIn" => k_dflt (refine notin_bools (by k_asm) (by k_mem) ?_)
  k_with "call ref" => k_dflt (
    (with_reducible show wpAny _ _ (call (Value.ref 85) _) _ _ _)
    refine' avg_new ?k1 ?k2 ?k3 ?k4 ?k5 ?kK  ?kd ?ku ?_
    (case k1 => k_asm)
    (case k2 => k_asm)
    (case k3 => k_asm)
    (case k5 => k_asm)
    (case k4 => k_asm)
    (case kK => first | exact rfl | assumption)
    (case kd => first | exact room1 (by assumption) (by decide) | exact room2 (by assumption) (by decide) | ktr_room)
    (case ku => first | exact room1 (by assumption) (by decide) | exact room2 (by assumption) (by decide) | ktr_units)
    intro x9 d9 k19 k29 t19 t29 h9 tk9 l19 l29 F9 N9
    (try k_lt l19)
    (try k_lt2 l29)
    (try dsimp only at N9)
    (try dsimp only)
    (try k_fold)
    skip)
  k_steps
  · rename News _ _ _ _ => nn
    rename Fr _ _ _ _ => ff
    exact LCg.CompEnd.intro ff nn _ (fun p hp => hp) off' True.intro ⟨_, _, rfl, rfl⟩
  · rename News _ _ _ _ => nn
    refine hret _ _ _ _ ⟨congrArg Value.bool (by assumption), rfl⟩ (by k_asm) (news_sub nn ?_)
    intro p hp
    repeat (first | exact hp | apply List.mem_cons_of_mem)
  · rename News _ _ _ _ => nn
    refine hret _ _ _ _ ⟨congrArg Value.bool (comes_back hO' (by assumption) (min_pred (by omega) (by omega)) (min_pred (by omega) (by omega))), rfl⟩ (by k_asm) (news_sub nn ?_)
    intro p hp
    repeat (first | exact hp | apply List.mem_cons_of_mem)
  · exact absurd hO'.last (by assumption)
end
section
open PySem PySem.W PySem.Calls PyProof.Rows
set_option maxRecDepth 100000
set_option linter.unusedVariables false
-- the contracts at their calls

theorem cu_eq {m₀ : Str → Option Value} {v l : Int} {tv tv2 tl : Tok} {u : Option Value} :
    (fun y => if y = Str.ofString "last" then some (Value.int v tv) else if y = Str.ofString "share" then some (Value.int v tv2) else cuM m₀ l tl u y) = cuM m₀ v tv (some (.int v tv2)) := by
  funext y
  by_cases c1 : y = Str.ofString "last"
  · simp only [cuM, if_pos c1]
  · by_cases c2 : y = Str.ofString "share"
    · simp only [cuM, if_neg c1, if_pos c2]
    · simp only [cuM, if_neg c1, if_neg c2]

set_option maxHeartbeats 1000000 in
theorem curve_ok (w : World) (c dc la : Addr) (k1 k2 k3 t1 t2 t3 u1 u2 u3 : Tok) (low high most : Int) (vs : List Value) (ns : List Int) (n : Nat) (rest : List (Addr × Obj))
    (ho : OwnOff rest [c, dc, la]) (hn1 : @Ne Nat c dc) (hn2 : @Ne Nat c la) (hn3 : @Ne Nat dc la)
    (h0 : 0 ≤ low) (h1 : low < high) (h2 : high < 1000) (h3 : 0 ≤ most) (h4 : most < 1000) (hi : IntsAre vs ns)
    (hr : ∀ a ∈ ns, 0 ≤ a ∧ a < 1000) (hs : ∀ (i j : Nat) (a b : Int), i ≤ j → ns[i]? = some a → ns[j]? = some b → a ≤ b) :
    Claim w 12 204 [.ref c, .int low u1, .int high u2, .int most u3, .ref la] ((c, instObj 120 dc) :: (dc, curveObj w k1 k2 k3 low t1 high t2 most t3) :: (la, listOf vs.toArray n) :: rest)
      (fun r news' => r = .bool true ∧ news' = (c, instObj 120 dc) :: (dc, curveObj w k1 k2 k3 low t1 high t2 most t3) :: (la, listOf vs.toArray n) :: rest) := by
  unfold Claim
  k_with_none
  w_top off
  k_with "om" => (first | k_extra "proj" | lia | omega (config := {}))
  k_with "pj" => (first | assumption | exact And.left (by assumption) | exact And.left (And.right (by assumption)) | exact And.left (And.right (And.right (by assumption))) | exact And.left (And.right (And.right (And.right (by assumption)))) | exact And.left (And.right (And.right (And.right (And.right (by assumption))))) | exact And.left (And.right (And.right (And.right (And.right (And.right (by assumption)))))) | exact And.left (And.right (And.right (And.right (And.right (And.right (And.right (by assumption))))))) | exact And.left (And.right (And.right (And.right (And.right (And.right (And.right (And.right (by assumption)))))))) | exact And.left (And.right (And.right (And.right (And.right (And.right (And.right (And.right (And.right (by assumption))))))))) | exact And.left (And.right (And.right (And.right (And.right (And.right (And.right (And.right (And.right (And.right (by assumption)))))))))) | exact And.left (And.right (And.right (And.right (And.right (And.right (And.right (And.right (And.right (And.right (And.right (by assumption))))))))))) | exact And.left (And.right (And.right (And.right (And.right (And.right (And.right (And.right (And.right (And.right (And.right (And.right (by assumption)))))))))))) | exact And.left (And.right (And.right (And.right (And.right (And.right (And.right (And.right (And.right (And.right (And.right (And.right (And.right (by assumption))))))))))))) | exact And.left (And.right (And.right (And.right (And.right (And.right (And.right (And.right (And.right (And.right (And.right (And.right (And.right (And.right (by assumption)))))))))))))) | exact And.right (by assumption) | exact And.right (And.right (by assumption)) | exact And.right (And.right (And.right (by assumption))) | exact And.right (And.right (And.right (And.right (by assumption)))) | exact And.right (And.right (And.right (And.right (And.right (by assumption))))) | exact And.right (And.right (And.right (And.right (And.right (And.right (by assumption)))))) | exact And.right (And.right (And.right (And.right (And.right (And.right (And.right (by assumption))))))) | exact And.right (And.right (And.right (And.right (And.right (And.right (And.right (And.right (by assumption)))))))) | exact And.right (And.right (And.right (And.right (And.right (And.right (And.right (And.right (And.right (by assumption))))))))) | exact And.right (And.right (And.right (And.right (And.right (And.right (And.right (And.right (And.right (And.right (by assumption)))))))))) | exact And.right (And.right (And.right (And.right (And.right (And.right (And.right (And.right (And.right (And.right (And.right (by assumption))))))))))) | exact And.right (And.right (And.right (And.right (And.right (And.right (And.right (And.right (And.right (And.right (And.right (And.right (by assumption)))))))))))) | exact And.right (And.right (And.right (And.right (And.right (And.right (And.right (And.right (And.right (And.right (And.right (And.right (And.right (by assumption))))))))))))))
  k_with "proj" => (first
    | (with_reducible assumption)
    | ((with_reducible show @Ne Nat _ _); (with_reducible first
      | (refine Nat.ne_of_gt ?_; k_extra "pj")
      | (refine Nat.ne_of_lt ?_; k_extra "pj")
      | (refine Nat.ne_of_gt (Nat.lt_trans ?_ (by assumption)); k_extra "pj")
      | (refine Nat.ne_of_lt (Nat.lt_trans ?_ (by assumption)); k_extra "pj")
      | k_extra "pj"
      | (refine Ne.symm ?_; k_extra "pj")
      | (first | exact And.left (And.left (by assumption)) | exact And.left (And.right (And.left (by assumption))) | exact And.right (And.right (And.left (by assumption))) | exact And.left (And.left (And.right (by assumption))) | exact And.left (And.right (And.left (And.right (by assumption)))) | exact And.right (And.right (And.left (And.right (by assumption)))) | exact And.left (And.left (And.right (And.right (by assumption)))) | exact And.left (And.right (And.left (And.right (And.right (by assumption))))) | exact And.right (And.right (And.left (And.right (And.right (by assumption))))) | exact And.left (And.left (And.right (And.right (And.right (by assumption))))) | exact And.left (And.right (And.left (And.right (And.right (And.right (by assumption)))))) | exact And.right (And.right (And.left (And.right (And.right (And.right (by assumption)))))) | exact And.left (And.left (And.right (And.right (And.right (And.right (by assumption)))))) | exact And.left (And.right (And.left (And.right (And.right (And.right (And.right (by assumption))))))) | exact And.right (And.right (And.left (And.right (And.right (And.right (And.right (by assumption))))))) | exact And.left (And.left (And.right (And.right (And.right (And.right (And.right (by assumption))))))) | exact And.left (And.right (And.left (And.right (And.right (And.right (And.right (And.right (by assumption)))))))) | exact And.right (And.right (And.left (And.right (And.right (And.right (And.right (And.right (by assumption)))))))))
      | (refine Ne.symm ?_; (first | exact And.left (And.left (by assumption)) | exact And.left (And.right (And.left (by assumption))) | exact And.right (And.right (And.left (by assumption))) | exact And.left (And.left (And.right (by assumption))) | exact And.left (And.right (And.left (And.right (by assumption)))) | exact And.right (And.right (And.left (And.right (by assumption)))) | exact And.left (And.left (And.right (And.right (by assumption)))) | exact And.left (And.right (And.left (And.right (And.right (by assumption))))) | exact And.right (And.right (And.left (And.right (And.right (by assumption))))) | exact And.left (And.left (And.right (And.right (And.right (by assumption))))) | exact And.left (And.right (And.left (And.right (And.right (And.right (by assumption)))))) | exact And.right (And.right (And.left (And.right (And.right (And.right (by assumption)))))) | exact And.left (And.left (And.right (And.right (And.right (And.right (by assumption)))))) | exact And.left (And.right (And.left (And.right (And.right (And.right (And.right (by assumption))))))) | exact And.right (And.right (And.left (And.right (And.right (And.right (And.right (by assumption))))))) | exact And.left (And.left (And.right (And.right (And.right (And.right (And.right (by assumption))))))) | exact And.left (And.right (And.left (And.right (And.right (And.right (And.right (And.right (by assumption)))))))) | exact And.right (And.right (And.left (And.right (And.right (And.right (And.right (And.right (by assumption))))))))))))
    | ((with_reducible show @LT.lt Nat _ _ _); (with_reducible k_extra "pj"))
    | ((with_reducible show @LE.le Nat _ _ _); (with_reducible first | exact Nat.le_refl _ | (refine Nat.le_of_lt ?_; k_extra "pj")))
    | ((with_reducible refine And.intro ?_ ?_) <;> omega)
    | (with_reducible (first | assumption | exact And.left (by assumption) | exact And.left (And.right (by assumption)) | exact And.left (And.right (And.right (by assumption))) | exact And.right (by assumption) | exact And.right (And.right (by assumption)))))
  k_with "updF" => k_dflt (rename Ap _ _ => hAp9; first | exact upd0 hAp9 | exact upd1 hAp9 | exact upd2 hAp9 | exact upd3 hAp9 | exact upd4 hAp9 | exact upd5 hAp9 | exact upd6 hAp9 | exact upd7 hAp9 | exact upd8 hAp9 | exact upd9 hAp9 | exact upd10 hAp9 | exact upd11 hAp9 | exact upd12 hAp9 | exact upd13 hAp9 | exact upd14 hAp9 | exact upd15 hAp9)
  k_with "upd" => k_dflt (rename Ap _ _ => hAp9; first | exact upe0 hAp9 | exact upe1 hAp9 | exact upe2 hAp9 | exact upe3 hAp9 | exact upe4 hAp9 | exact upe5 hAp9 | exact upe6 hAp9 | exact upe7 hAp9 | exact upe8 hAp9 | exact upe9 hAp9 | exact upe10 hAp9 | exact upe11 hAp9 | exact upe12 hAp9 | exact upe13 hAp9 | exact upe14 hAp9 | exact upe15 hAp9)
  k_with "lt" => ((rename (∀ p ∈ _, _ < _) => hL9); (try (rename Ap _ _ => hAp9; have hRaw := hL9; have hAp := Ap.push hAp9 hL9 rfl)); replace hL9 := allLt_of hL9; dsimp only [AllLt] at hL9)
  k_with "lt2" => ((with_reducible rename @LT.lt Nat _ _ _ => hL8); replace hL8 := ltN hL8; (try (rename Ap _ _ => hAp9; rename (∀ p ∈ _, _ < _) => hRaw9; have hAp := Ap.push2 hAp9 hRaw9 rfl hL8)))
  k_with "all" => (first | exact allLt_ne (by assumption) (by omega) | exact lt_neG (by assumption) (by omega))
  k_with "allmem" => (first | (with_reducible exact List.forall_mem_nil _) | ((with_reducible refine List.forall_mem_cons.mpr (And.intro ?_ ?_)); (focus k_mem); walk_at "allmem") | (intro p hp; (repeat (first | exact hp | apply List.mem_cons_of_mem)); done))
  k_with "storeName int" => k_dflt (refine' store_int ?gqF ?gqN ?_ ?gqa ?gqb; (case gqF => k_asm); (case gqN => k_asm); (case gqa => rfl); (case gqb => rfl); k_whole; intro t' h' tk' F' N'; (try k_sweep))
  k_with "storeName" => k_dflt (refine' store_any ?gqF ?gqN ?_ ?gqa ?gqb; (case gqF => k_asm); (case gqN => k_asm); (case gqa => rfl); (case gqb => rfl); k_whole; intro h' tk' F' N'; (try k_sweep))
  k_with "newTuple" => (k_dflt (first
    | (refine' tup_2 ?gqF ?gqN ?_; (case gqF => k_asm); (case gqN => k_asm); k_whole; intro t1' t2' D' h' tk' F' N' l1)
    | (refine' tup_3 ?gqF ?gqN ?_; (case gqF => k_asm); (case gqN => k_asm); k_whole; intro t1' t2' t3' D' h' tk' F' N' l1)
    | (refine' tup_any ?gqF ?gqN ?_ ?gqz; (case gqF => k_asm); (case gqN => k_asm); (case gqz => exact Nat.le_of_ble_eq_true rfl); k_whole; intro D' h' tk' F' N' l1)); (try k_lt l1); (try k_sweep))
  k_with "newList" => (k_dflt (first
    | (refine' list_4 ?gqF ?gqN ?_; (case gqF => k_asm); (case gqN => k_asm); k_whole; intro t1' t2' t3' t4' D' h' tk' F' N' l1)
    | (refine' list_1 ?gqF ?gqN ?_; (case gqF => k_asm); (case gqN => k_asm); k_whole; intro t1' D' h' tk' F' N' l1)
    | (refine' list_any ?gqF ?gqN ?_ ?gqz; (case gqF => k_asm); (case gqN => k_asm); (case gqz => exact Nat.le_of_ble_eq_true rfl); k_whole; intro D' h' tk' F' N' l1)); (try k_lt l1); (try k_sweep))
  k_with "exec Assign cons Call" => k_fold
  k_with "exec Assign cons Tuple" => k_fold
  k_with "exec If BoolOp cons nil" => k_fold
  k_with "exec If UnaryOp cons nil" => k_fold
  k_with "exec If Compare cons nil" => k_fold
  k_with "exec Assign cons BinOp" => k_fold
  k_with "exec Expr Call" => k_fold
  k_with "exec Assign cons Compare" => k_fold
  k_with "exec Assign cons Subscript" => k_fold
  k_with "exec If Name cons nil" => k_fold
  k_with "gx" => k_dflt (first
    | exact gv_int
    | (refine' gv_name ?gqF ?gqv ?gqa ?gqb ?gqc; (case gqF => k_asm); (case gqa => rfl); (case gqb => rfl); (case gqv => exact @rfl _ (some _)); (case gqc => decide))
    | (refine' gv_cell ?gqN ?gqc ?gqm ?gqd ?gqa ?gqb ?gqe; (case gqa => rfl); (case gqb => rfl); (case gqN => k_asm); (case gqc => rfl); (case gqm => k_mem); (case gqd => k_asm); (case gqe => decide))
    | (refine' gv_glob ?gqF ?gqX ?gqT ?gqe ?gqa ?gqb ?gqc; (case gqF => k_asm); (case gqX => k_asm); (case gqT => k_asm); (case gqa => rfl); (case gqb => rfl); (case gqe => k_is); (case gqc => decide))
    | (refine' gv_add ?gqg ?gqh; (case gqg => k_extra "gx"); (case gqh => k_extra "gx"))
    | (refine' gv_sub ?gqg ?gqh; (case gqg => k_extra "gx"); (case gqh => k_extra "gx"))
    | (refine' gv_attr ?gqg ?gqk1 ?gqk2 ?gqk3 ?gqk4 ?gqk5 ?gqk6 ?gqk7 ?gqk8 ?gqk9 ?gqe; (case gqg => k_extra "gx"); (case gqk1 => k_asm); (case gqk2 => k_asm); (case gqk3 => k_inst); (case gqk4 => k_is); (case gqk5 => k_is); (case gqk6 => k_is); (case gqk7 => k_is); (case gqk8 => k_get); (case gqk9 => k_handed); (case gqe => with_unfolding_all rfl)))
  k_with "gl" => k_dflt (first
    | exact gl_nil
    | (refine' gl_cons ?gqg ?gqh ?gqe; (case gqe => rfl); (case gqg => k_extra "gx"); (case gqh => k_extra "gl")))
  k_with "callWith ref" => (k_dflt (refine' callWith_gv ?gqX ?gqF ?gqk ?gqg ?_ ?gqe ?gqp; (case gqX => k_asm); (case gqF => k_asm); (case gqk => k_is); (case gqe => rfl); (case gqp => rfl); (case gqg => k_extra "gl"); k_whole); (try dsimp only [List.nil_append, List.cons_append]))
  k_with "eval Call Name cons nil" => k_dflt (refine' call_gv ?gqX ?gqF ?gqf ?gqk ?gqg ?_ ?gqc ?gqe ?gqp; (case gqX => k_asm); (case gqF => k_asm); (case gqc => rfl); (case gqe => rfl); (case gqp => rfl); (case gqf => k_extra "gx"); (case gqk => k_is); (case gqg => k_extra "gl"); k_whole)
  k_with "eval Name" => k_dflt (refine' nameX_L ?gqF ?gqv ?_ ?gqa ?gqb ?gqc; (case gqF => k_asm); (case gqa => rfl); (case gqb => rfl); (case gqv => exact @rfl _ (some _)); (case gqc => decide); k_whole)
  k_with "spliced" => (k_dflt (refine' spliced_gv ?gqg ?_; (case gqg => k_extra "gl"); k_whole); (try dsimp only [List.nil_append, List.cons_append]))
  k_with "eval BinOp" => k_dflt (refine' eval_gv ?gqg ?_; (case gqg => k_extra "gx"); k_whole)
  k_with "eval Attribute Name" => k_dflt (refine' eval_gv ?gqg ?_; (case gqg => k_extra "gx"); k_whole)
  k_with "cmp" => k_dflt (first
    | ((with_reducible show wpAny _ _ (isTrue (Expr.Compare _ [CmpOp.Lt] [_] _) _ _) _ _ _); refine' ts_lt ?gqg ?gqh ?_ ?gqm; (case gqm => with_unfolding_all rfl); (case gqg => k_extra "gx"); (case gqh => k_extra "gx"); k_whole)
    | ((with_reducible show wpAny _ _ (isTrue (Expr.Compare _ [CmpOp.LtE] [_] _) _ _) _ _ _); refine' ts_le ?gqg ?gqh ?_ ?gqm; (case gqm => with_unfolding_all rfl); (case gqg => k_extra "gx"); (case gqh => k_extra "gx"); k_whole)
    | ((with_reducible show wpAny _ _ (isTrue (Expr.Compare _ [CmpOp.Gt] [_] _) _ _) _ _ _); refine' ts_gt ?gqg ?gqh ?_ ?gqm; (case gqm => with_unfolding_all rfl); (case gqg => k_extra "gx"); (case gqh => k_extra "gx"); k_whole)
    | ((with_reducible show wpAny _ _ (isTrue (Expr.Compare _ [CmpOp.GtE] [_] _) _ _) _ _ _); refine' ts_ge ?gqg ?gqh ?_ ?gqm; (case gqm => with_unfolding_all rfl); (case gqg => k_extra "gx"); (case gqh => k_extra "gx"); k_whole)
    | ((with_reducible show wpAny _ _ (isTrue (Expr.Compare _ [CmpOp.Eq] [_] _) _ _) _ _ _); refine' ts_eq ?gqg ?gqh ?_ ?gqm; (case gqm => with_unfolding_all rfl); (case gqg => k_extra "gx"); (case gqh => k_extra "gx"); k_whole)
    | ((with_reducible show wpAny _ _ (isTrue (Expr.Compare _ [CmpOp.NotEq] [_] _) _ _) _ _ _); refine' ts_ne ?gqg ?gqh ?_ ?gqm; (case gqm => with_unfolding_all rfl); (case gqg => k_extra "gx"); (case gqh => k_extra "gx"); k_whole))
  k_with "isTrue Compare Name" => k_extra "cmp"
  k_with "isTrue Compare Constant" => k_extra "cmp"
  k_with "isTrue Compare BinOp" => k_extra "cmp"
  k_with "isTrue Compare Attribute" => k_extra "cmp"
  k_with "enter" => (refine' code_any ?k1 ?k2 ?k3 ?k4 ?k5 ?kA ?kF ?kK ?k6 ?k7 ?k8 ?k9 ?kB ?_ ?c2 ?c3 ?c4 ?c5; (case kA => exact rfl); (case kF => exact rfl); (case kK => first | exact rfl | assumption); (case k1 => k_asm); (case k2 => k_asm); (case k3 => k_asm); (case k4 => k_asm); (case k5 => k_asm); (case k6 => k_is); (case k7 => k_is); (case k8 => k_room); (case k9 => first | exact BindsTo.of_eq rfl | exact binds_K (by k_in) rfl (by k_is) rfl rfl rfl); (case c5 => decide); (case kB => exact locs rfl); (case c2 => exact rfl); (case c3 => exact rfl); (case c4 => exact rfl); k_whole; intro g' L' h' tk' FG' F' N' B' X' T'; (try dsimp only); (try k_lift B'); (try k_fold))
  k_with "clsnew" => k_dflt (refine' call_cls ?k1 ?k2 ?k3 ?k4 ?k5 ?k6 ?_; (case k1 => k_asm); (case k2 => k_asm); (case k3 => k_asm); (case k4 => k_is); (case k5 => k_is); (case k6 => k_is); k_whole; intro x' d' h' F' N' l1 l2; (try k_lt l1); (try k_lt2 l2); (try k_sweep); k_extra "enter")
  k_fill
  intro mean mg mb dp un gd cn cs a ccd cl outer A₀ base h₀ L m s Q E B F X N T hk hd hu hret
  refine wpAny_call ?_
  k_dflt ((refine' code_defC ?k1 ?k2 ?k3 ?k4 ?k5 ?kA ?kF ?kK ?k6 ?k7 ?k8 ?k9 ?kB ?kD ?_ ?c2 ?c3 ?c4; (case kA => exact rfl); (case kF => exact rfl); (case kK => assumption); (case k1 => k_asm); (case k2 => k_asm); (case k3 => k_asm); (case k4 => k_asm); (case k5 => k_asm); (case k6 => k_is); (case k7 => k_is); (case k8 => ktr_room); (case k9 => exact BindsTo.of_eq rfl); (case kB => exact rfl); (case kD => decide +kernel); (case c2 => exact rfl); (case c3 => exact rfl); (case c4 => exact rfl); k_whole; intro g' L' h' tk' cells' FG' F' N' Y' B' X' T' l1; (try k_lt l1); k_cells Y'; (try simp only [List.cons_append, List.nil_append] at N'); (try dsimp only); (try k_lift B'); (try k_fold)))
  k_with "exec For Name Name cons nil" => (k_here; (rename Fr _ _ _ _ => lF'); (with_unfolding_all refine' For_turns lF' ?_); k_whole)
  k_with "CompEnd" => (refine LCg.CompEnd.intro (by k_asm) (by k_asm) _ (fun p hp => hp) (by (simp only [LCg.Off3, and_true]; assumption)) (Or.inr ⟨_, by k_mem, by rfl, _, by rfl⟩) ?_)
  k_with "compareOp NotEq ref ref" => k_dflt (refine ne_two (by k_asm) (by k_mem) (by k_mem) (by ktr_units) ?_)
  k_with "call ref" => k_dflt (
    (with_reducible show wpAny _ _ (call (Value.ref 110) _) _ _ _)
    refine' use_i (share_c ?hc ?hdc ?hn ?h0 ?h1 ?h2 ?h3 ?h4 ?h5 ?h6) ?k1 ?k2 ?k3 ?k4 ?k5 ?kK ?kd ?ku ?_
    (case k1 => k_asm)
    (case k2 => k_asm)
    (case k3 => k_asm)
    (case k5 => k_asm)
    (case k4 => k_asm)
    (case hc => k_mem)
    (case hdc => k_mem)
    (case hn => k_ne)
    (case h0 => omega)
    (case h1 => omega)
    (case h2 => omega)
    (case h3 => omega)
    (case h4 => omega)
    (case h5 => omega)
    (case h6 => omega)
    (case kK => first | exact rfl | assumption)
    (case kd => first | exact room1 (by assumption) (by decide) | exact room2 (by assumption) (by decide) | ktr_room)
    (case ku => first | exact room1 (by assumption) (by decide) | exact room2 (by assumption) (by decide) | ktr_units)
    intro v9 t9 h9 tk9 hv9 F9 N9
    (try dsimp only at N9)
    (try dsimp only)
    (try k_fold)
    skip)
  k_with "call ref" => k_dflt (
    (with_reducible show wpAny _ _ (call (Value.ref 117) _) _ _ _)
    refine' use_v (drops_cv ?hv ?hc ?hdc ?hn ?h0 ?h1 ?h2 ?h3 ?h4 ?h5 ?h6) ?k1 ?k2 ?k3 ?k4 ?k5 ?kK ?kd ?ku ?_
    (case k1 => k_asm)
    (case k2 => k_asm)
    (case k3 => k_asm)
    (case k5 => k_asm)
    (case k4 => k_asm)
    (case hv => assumption)
    (case hc => k_mem)
    (case hdc => k_mem)
    (case hn => k_ne)
    (case h0 => omega)
    (case h1 => omega)
    (case h2 => omega)
    (case h3 => omega)
    (case h4 => omega)
    (case h5 => omega)
    (case h6 => omega)
    (case kK => first | exact rfl | assumption)
    (case kd => first | exact room1 (by assumption) (by decide) | exact room2 (by assumption) (by decide) | ktr_room)
    (case ku => first | exact room1 (by assumption) (by decide) | exact room2 (by assumption) (by decide) | ktr_units)
    intro h9 tk9 F9 N9
    (try dsimp only at N9)
    (try dsimp only)
    (try k_fold)
    skip)
  k_with "call ref" => k_dflt (
    (with_reducible show wpAny _ _ (call (Value.ref 199) _) _ _ _)
    refine' use_iv (lshare_cv ?hv ?h0 ?h1 ?h2 ?h3 ?h4 ?h5 ?h6) ?k1 ?k2 ?k3 ?k4 ?k5 ?kK ?kd ?ku ?_
    (case k1 => k_asm)
    (case k2 => k_asm)
    (case k3 => k_asm)
    (case k5 => k_asm)
    (case k4 => k_asm)
    (case hv => assumption)
    (case h0 => omega)
    (case h1 => omega)
    (case h2 => omega)
    (case h3 => omega)
    (case h4 => omega)
    (case h5 => omega)
    (case h6 => omega)
    (case kK => first | exact rfl | assumption)
    (case kd => first | exact room1 (by assumption) (by decide) | exact room2 (by assumption) (by decide) | ktr_room)
    (case ku => first | exact room1 (by assumption) (by decide) | exact room2 (by assumption) (by decide) | ktr_units)
    intro t9 h9 tk9 F9 N9
    (try dsimp only at N9)
    (try dsimp only)
    (try k_fold)
    skip)
  k_with "pyIter ref" => k_dflt (
    refine iter_listTurns (by rfl) (by k_asm) (by k_asm) (by k_mem) (by rfl) (by rfl) ?_
    intro I' lI'
    (try k_lt lI')
    refine curve_items low high most _ h1 h3 (by omega) hi hs (by assumption) (fun oc => by k_mem) (fun oc' oI' x' a' t' l' tl' u' h' tk' ha' hl' hle' hx' hI' F' N' => ?_) (fun oc' x' l' tl' u' h' tk' hx' F' N' => ?_)
    all_goals (try dsimp only [cuM] at F')
    all_goals (try (have hb9 := hr _ ha')))
  k_with "CompSrc" => k_dflt (
    refine LCg.CompSrc.ledger (by rfl) (by k_asm) (by k_asm) (by k_mem) (by size_fits) ?_
    intro g')
  k_steps
  all_goals first
    | exact absurd rfl (by assumption)
    | (rename News _ _ _ _ => nn
       refine hret _ _ _ _ ⟨rfl, rfl⟩ (by k_asm) (news_sub nn ?_)
       intro p hp
       repeat (first | exact hp | apply List.mem_cons_of_mem))
    | (rename News _ _ _ _ => nn
       rename Fr _ _ _ _ => ff
       rename _ = shareF _ _ _ _ => hv
       subst hv
       refine ⟨_, _, _, _, rfl, ff, news_sub nn ?_, ?_, .mk _ _ _ _ _ (by assumption) cu_eq⟩
       · intro p hp
         rcases List.mem_cons.mp hp with rfl | hp
         · k_mem
         · repeat (first | exact hp | apply List.mem_cons_of_mem)
       · intro p hp q hq
         rw [List.mem_singleton.mp hq]
         exact allLt_ne (show AllLt I' _ from by (simp only [AllLt, and_true]; assumption)) (Nat.le_refl _) p hp)
end
section
open PySem PySem.W PySem.Calls PyProof.Rows
set_option maxRecDepth 100000
set_option linter.unusedVariables false
noncomputable def Claim0 (w : World) (k : Nat) (f : Addr) (vs : List Value) (news : List (Addr × Obj)) (Ret : Value → List (Addr × Obj) → Prop) : Prop :=
  ∀ (mean : ExcName → Option Value) (mg mb : Str → Option Value) (dp un : Nat) (gd : Option (List Code)) (cn : Str) (cs : Scope) (a : Addr) (ccd : Value) (cl : List (Str × Addr)) (A₀ : Around) (h₀ : Heap) (L : Addr) (m : Str → Option Value) (s : Shared) (Q E : Value → Shared → Prop),
    Below A₀ h₀ [] h₀ → Fr h₀ L s.heap m → (hd.heap_39 w.params).In h₀ → News h₀ L s.heap news → Top hd.view_39 (looseW hd.view_39 [Str.ofString "SettingError"]) mean mg mb h₀ → cs.kind = .function →
    dp + k < recursionLimit → un + 8 * k < cLine →
    (∀ r news' h' tk', Ret r news' → Fr h₀ L h' m → News h₀ L h' news' → Q r { s with heap := h', toks := tk' }) →
      wpAny (model PySem.Challenge.rw_pc0359_01.row.prog w) (ktrTop dp un gd cn cs L a ccd cl []) (call (.ref f) vs) Q E s

theorem exc59 (w : World) : ExcMk (hd.heap_39 w.params) 59 "Exception" "Exception.__new__" :=
  ⟨⟨_, rfl, .mk _ _ _ _ _ _ _ _ _ _ _ _ _ _ _ _ (by decide +kernel) (by decide +kernel) (by decide +kernel) (by decide +kernel)⟩, by kernel_rfl, by kernel_rfl⟩
noncomputable def RefC (low high most : Int) : Prop := low < 0 ∨ (0 ≤ low ∧ high ≤ low) ∨ (0 ≤ low ∧ low < high ∧ most < 0) ∨ (0 ≤ low ∧ low < high ∧ 0 ≤ most ∧ 10000 < most)
set_option maxHeartbeats 8000000 in
theorem refused_ok (w : World) (low high most : Int) (t1 t2 t3 : Tok) (rest : List (Addr × Obj)) (hc : RefC low high most) :
    Claim0 w 9 221 [.int low t1, .int high t2, .int most t3] rest (fun r news' => r = .bool true ∧ news' = rest) := by
  unfold Claim0
  k_with_none
  w_top off
  k_with "om" => (first | k_extra "proj" | lia | omega (config := {}))
  k_with "pj" => (first | assumption | exact And.left (by assumption) | exact And.left (And.right (by assumption)) | exact And.left (And.right (And.right (by assumption))) | exact And.left (And.right (And.right (And.right (by assumption)))) | exact And.left (And.right (And.right (And.right (And.right (by assumption))))) | exact And.left (And.right (And.right (And.right (And.right (And.right (by assumption)))))) | exact And.left (And.right (And.right (And.right (And.right (And.right (And.right (by assumption))))))) | exact And.left (And.right (And.right (And.right (And.right (And.right (And.right (And.right (by assumption)))))))) | exact And.left (And.right (And.right (And.right (And.right (And.right (And.right (And.right (And.right (by assumption))))))))) | exact And.left (And.right (And.right (And.right (And.right (And.right (And.right (And.right (And.right (And.right (by assumption)))))))))) | exact And.left (And.right (And.right (And.right (And.right (And.right (And.right (And.right (And.right (And.right (And.right (by assumption))))))))))) | exact And.left (And.right (And.right (And.right (And.right (And.right (And.right (And.right (And.right (And.right (And.right (And.right (by assumption)))))))))))) | exact And.left (And.right (And.right (And.right (And.right (And.right (And.right (And.right (And.right (And.right (And.right (And.right (And.right (by assumption))))))))))))) | exact And.left (And.right (And.right (And.right (And.right (And.right (And.right (And.right (And.right (And.right (And.right (And.right (And.right (And.right (by assumption)))))))))))))) | exact And.right (by assumption) | exact And.right (And.right (by assumption)) | exact And.right (And.right (And.right (by assumption))) | exact And.right (And.right (And.right (And.right (by assumption)))) | exact And.right (And.right (And.right (And.right (And.right (by assumption))))) | exact And.right (And.right (And.right (And.right (And.right (And.right (by assumption)))))) | exact And.right (And.right (And.right (And.right (And.right (And.right (And.right (by assumption))))))) | exact And.right (And.right (And.right (And.right (And.right (And.right (And.right (And.right (by assumption)))))))) | exact And.right (And.right (And.right (And.right (And.right (And.right (And.right (And.right (And.right (by assumption))))))))) | exact And.right (And.right (And.right (And.right (And.right (And.right (And.right (And.right (And.right (And.right (by assumption)))))))))) | exact And.right (And.right (And.right (And.right (And.right (And.right (And.right (And.right (And.right (And.right (And.right (by assumption))))))))))) | exact And.right (And.right (And.right (And.right (And.right (And.right (And.right (And.right (And.right (And.right (And.right (And.right (by assumption)))))))))))) | exact And.right (And.right (And.right (And.right (And.right (And.right (And.right (And.right (And.right (And.right (And.right (And.right (And.right (by assumption))))))))))))))
  k_with "proj" => (first
    | (with_reducible assumption)
    | ((with_reducible show @Ne Nat _ _); (with_reducible first
      | (refine Nat.ne_of_gt ?_; k_extra "pj")
      | (refine Nat.ne_of_lt ?_; k_extra "pj")
      | (refine Nat.ne_of_gt (Nat.lt_trans ?_ (by assumption)); k_extra "pj")
      | (refine Nat.ne_of_lt (Nat.lt_trans ?_ (by assumption)); k_extra "pj")
      | k_extra "pj"
      | (refine Ne.symm ?_; k_extra "pj")
      | (first | exact And.left (And.left (by assumption)) | exact And.left (And.right (And.left (by assumption))) | exact And.right (And.right (And.left (by assumption))) | exact And.left (And.left (And.right (by assumption))) | exact And.left (And.right (And.left (And.right (by assumption)))) | exact And.right (And.right (And.left (And.right (by assumption)))) | exact And.left (And.left (And.right (And.right (by assumption)))) | exact And.left (And.right (And.left (And.right (And.right (by assumption))))) | exact And.right (And.right (And.left (And.right (And.right (by assumption))))) | exact And.left (And.left (And.right (And.right (And.right (by assumption))))) | exact And.left (And.right (And.left (And.right (And.right (And.right (by assumption)))))) | exact And.right (And.right (And.left (And.right (And.right (And.right (by assumption)))))) | exact And.left (And.left (And.right (And.right (And.right (And.right (by assumption)))))) | exact And.left (And.right (And.left (And.right (And.right (And.right (And.right (by assumption))))))) | exact And.right (And.right (And.left (And.right (And.right (And.right (And.right (by assumption))))))) | exact And.left (And.left (And.right (And.right (And.right (And.right (And.right (by assumption))))))) | exact And.left (And.right (And.left (And.right (And.right (And.right (And.right (And.right (by assumption)))))))) | exact And.right (And.right (And.left (And.right (And.right (And.right (And.right (And.right (by assumption)))))))))
      | (refine Ne.symm ?_; (first | exact And.left (And.left (by assumption)) | exact And.left (And.right (And.left (by assumption))) | exact And.right (And.right (And.left (by assumption))) | exact And.left (And.left (And.right (by assumption))) | exact And.left (And.right (And.left (And.right (by assumption)))) | exact And.right (And.right (And.left (And.right (by assumption)))) | exact And.left (And.left (And.right (And.right (by assumption)))) | exact And.left (And.right (And.left (And.right (And.right (by assumption))))) | exact And.right (And.right (And.left (And.right (And.right (by assumption))))) | exact And.left (And.left (And.right (And.right (And.right (by assumption))))) | exact And.left (And.right (And.left (And.right (And.right (And.right (by assumption)))))) | exact And.right (And.right (And.left (And.right (And.right (And.right (by assumption)))))) | exact And.left (And.left (And.right (And.right (And.right (And.right (by assumption)))))) | exact And.left (And.right (And.left (And.right (And.right (And.right (And.right (by assumption))))))) | exact And.right (And.right (And.left (And.right (And.right (And.right (And.right (by assumption))))))) | exact And.left (And.left (And.right (And.right (And.right (And.right (And.right (by assumption))))))) | exact And.left (And.right (And.left (And.right (And.right (And.right (And.right (And.right (by assumption)))))))) | exact And.right (And.right (And.left (And.right (And.right (And.right (And.right (And.right (by assumption))))))))))))
    | ((with_reducible show @LT.lt Nat _ _ _); (with_reducible k_extra "pj"))
    | ((with_reducible show @LE.le Nat _ _ _); (with_reducible first | exact Nat.le_refl _ | (refine Nat.le_of_lt ?_; k_extra "pj")))
    | ((with_reducible refine And.intro ?_ ?_) <;> omega)
    | (with_reducible (first | assumption | exact And.left (by assumption) | exact And.left (And.right (by assumption)) | exact And.left (And.right (And.right (by assumption))) | exact And.right (by assumption) | exact And.right (And.right (by assumption)))))
  k_with "updF" => k_dflt (rename Ap _ _ => hAp9; first | exact upd0 hAp9 | exact upd1 hAp9 | exact upd2 hAp9 | exact upd3 hAp9 | exact upd4 hAp9 | exact upd5 hAp9 | exact upd6 hAp9 | exact upd7 hAp9 | exact upd8 hAp9 | exact upd9 hAp9 | exact upd10 hAp9 | exact upd11 hAp9 | exact upd12 hAp9 | exact upd13 hAp9 | exact upd14 hAp9 | exact upd15 hAp9)
  k_with "upd" => k_dflt (rename Ap _ _ => hAp9; first | exact upe0 hAp9 | exact upe1 hAp9 | exact upe2 hAp9 | exact upe3 hAp9 | exact upe4 hAp9 | exact upe5 hAp9 | exact upe6 hAp9 | exact upe7 hAp9 | exact upe8 hAp9 | exact upe9 hAp9 | exact upe10 hAp9 | exact upe11 hAp9 | exact upe12 hAp9 | exact upe13 hAp9 | exact upe14 hAp9 | exact upe15 hAp9)
  k_with "lt" => ((rename (∀ p ∈ _, _ < _) => hL9); (try (rename Ap _ _ => hAp9; have hRaw := hL9; have hAp := Ap.push hAp9 hL9 rfl)); replace hL9 := allLt_of hL9; dsimp only [AllLt] at hL9)
  k_with "lt2" => ((with_reducible rename @LT.lt Nat _ _ _ => hL8); replace hL8 := ltN hL8; (try (rename Ap _ _ => hAp9; rename (∀ p ∈ _, _ < _) => hRaw9; have hAp := Ap.push2 hAp9 hRaw9 rfl hL8)))
  k_with "all" => (first | exact allLt_ne (by assumption) (by omega) | exact lt_neG (by assumption) (by omega))
  k_with "allmem" => (first | (with_reducible exact List.forall_mem_nil _) | ((with_reducible refine List.forall_mem_cons.mpr (And.intro ?_ ?_)); (focus k_mem); walk_at "allmem") | (intro p hp; (repeat (first | exact hp | apply List.mem_cons_of_mem)); done))
  k_with "storeName int" => k_dflt (refine' store_int ?gqF ?gqN ?_ ?gqa ?gqb; (case gqF => k_asm); (case gqN => k_asm); (case gqa => rfl); (case gqb => rfl); k_whole; intro t' h' tk' F' N'; (try k_sweep))
  k_with "storeName" => k_dflt (refine' store_any ?gqF ?gqN ?_ ?gqa ?gqb; (case gqF => k_asm); (case gqN => k_asm); (case gqa => rfl); (case gqb => rfl); k_whole; intro h' tk' F' N'; (try k_sweep))
  k_with "newTuple" => (k_dflt (first
    | (refine' tup_2 ?gqF ?gqN ?_; (case gqF => k_asm); (case gqN => k_asm); k_whole; intro t1' t2' D' h' tk' F' N' l1)
    | (refine' tup_3 ?gqF ?gqN ?_; (case gqF => k_asm); (case gqN => k_asm); k_whole; intro t1' t2' t3' D' h' tk' F' N' l1)
    | (refine' tup_any ?gqF ?gqN ?_ ?gqz; (case gqF => k_asm); (case gqN => k_asm); (case gqz => exact Nat.le_of_ble_eq_true rfl); k_whole; intro D' h' tk' F' N' l1)); (try k_lt l1); (try k_sweep))
  k_with "newList" => (k_dflt (first
    | (refine' list_4 ?gqF ?gqN ?_; (case gqF => k_asm); (case gqN => k_asm); k_whole; intro t1' t2' t3' t4' D' h' tk' F' N' l1)
    | (refine' list_1 ?gqF ?gqN ?_; (case gqF => k_asm); (case gqN => k_asm); k_whole; intro t1' D' h' tk' F' N' l1)
    | (refine' list_any ?gqF ?gqN ?_ ?gqz; (case gqF => k_asm); (case gqN => k_asm); (case gqz => exact Nat.le_of_ble_eq_true rfl); k_whole; intro D' h' tk' F' N' l1)); (try k_lt l1); (try k_sweep))
  k_with "exec Assign cons Call" => k_fold
  k_with "exec Assign cons Tuple" => k_fold
  k_with "exec If BoolOp cons nil" => k_fold
  k_with "exec If UnaryOp cons nil" => k_fold
  k_with "exec If Compare cons nil" => k_fold
  k_with "exec Assign cons BinOp" => k_fold
  k_with "exec Expr Call" => k_fold
  k_with "exec Assign cons Compare" => k_fold
  k_with "exec Assign cons Subscript" => k_fold
  k_with "exec If Name cons nil" => k_fold
  k_with "gx" => k_dflt (first
    | exact gv_int
    | (refine' gv_name ?gqF ?gqv ?gqa ?gqb ?gqc; (case gqF => k_asm); (case gqa => rfl); (case gqb => rfl); (case gqv => exact @rfl _ (some _)); (case gqc => decide))
    | (refine' gv_cell ?gqN ?gqc ?gqm ?gqd ?gqa ?gqb ?gqe; (case gqa => rfl); (case gqb => rfl); (case gqN => k_asm); (case gqc => rfl); (case gqm => k_mem); (case gqd => k_asm); (case gqe => decide))
    | (refine' gv_glob ?gqF ?gqX ?gqT ?gqe ?gqa ?gqb ?gqc; (case gqF => k_asm); (case gqX => k_asm); (case gqT => k_asm); (case gqa => rfl); (case gqb => rfl); (case gqe => k_is); (case gqc => decide))
    | (refine' gv_add ?gqg ?gqh; (case gqg => k_extra "gx"); (case gqh => k_extra "gx"))
    | (refine' gv_sub ?gqg ?gqh; (case gqg => k_extra "gx"); (case gqh => k_extra "gx"))
    | (refine' gv_attr ?gqg ?gqk1 ?gqk2 ?gqk3 ?gqk4 ?gqk5 ?gqk6 ?gqk7 ?gqk8 ?gqk9 ?gqe; (case gqg => k_extra "gx"); (case gqk1 => k_asm); (case gqk2 => k_asm); (case gqk3 => k_inst); (case gqk4 => k_is); (case gqk5 => k_is); (case gqk6 => k_is); (case gqk7 => k_is); (case gqk8 => k_get); (case gqk9 => k_handed); (case gqe => with_unfolding_all rfl)))
  k_with "gl" => k_dflt (first
    | exact gl_nil
    | (refine' gl_cons ?gqg ?gqh ?gqe; (case gqe => rfl); (case gqg => k_extra "gx"); (case gqh => k_extra "gl")))
  k_with "callWith ref" => (k_dflt (refine' callWith_gv ?gqX ?gqF ?gqk ?gqg ?_ ?gqe ?gqp; (case gqX => k_asm); (case gqF => k_asm); (case gqk => k_is); (case gqe => rfl); (case gqp => rfl); (case gqg => k_extra "gl"); k_whole); (try dsimp only [List.nil_append, List.cons_append]))
  k_with "eval Call Name cons nil" => k_dflt (refine' call_gv ?gqX ?gqF ?gqf ?gqk ?gqg ?_ ?gqc ?gqe ?gqp; (case gqX => k_asm); (case gqF => k_asm); (case gqc => rfl); (case gqe => rfl); (case gqp => rfl); (case gqf => k_extra "gx"); (case gqk => k_is); (case gqg => k_extra "gl"); k_whole)
  k_with "eval Name" => k_dflt (refine' nameX_L ?gqF ?gqv ?_ ?gqa ?gqb ?gqc; (case gqF => k_asm); (case gqa => rfl); (case gqb => rfl); (case gqv => exact @rfl _ (some _)); (case gqc => decide); k_whole)
  k_with "spliced" => (k_dflt (refine' spliced_gv ?gqg ?_; (case gqg => k_extra "gl"); k_whole); (try dsimp only [List.nil_append, List.cons_append]))
  k_with "eval BinOp" => k_dflt (refine' eval_gv ?gqg ?_; (case gqg => k_extra "gx"); k_whole)
  k_with "eval Attribute Name" => k_dflt (refine' eval_gv ?gqg ?_; (case gqg => k_extra "gx"); k_whole)
  k_with "cmp" => k_dflt (first
    | ((with_reducible show wpAny _ _ (isTrue (Expr.Compare _ [CmpOp.Lt] [_] _) _ _) _ _ _); refine' ts_lt ?gqg ?gqh ?_ ?gqm; (case gqm => with_unfolding_all rfl); (case gqg => k_extra "gx"); (case gqh => k_extra "gx"); k_whole)
    | ((with_reducible show wpAny _ _ (isTrue (Expr.Compare _ [CmpOp.LtE] [_] _) _ _) _ _ _); refine' ts_le ?gqg ?gqh ?_ ?gqm; (case gqm => with_unfolding_all rfl); (case gqg => k_extra "gx"); (case gqh => k_extra "gx"); k_whole)
    | ((with_reducible show wpAny _ _ (isTrue (Expr.Compare _ [CmpOp.Gt] [_] _) _ _) _ _ _); refine' ts_gt ?gqg ?gqh ?_ ?gqm; (case gqm => with_unfolding_all rfl); (case gqg => k_extra "gx"); (case gqh => k_extra "gx"); k_whole)
    | ((with_reducible show wpAny _ _ (isTrue (Expr.Compare _ [CmpOp.GtE] [_] _) _ _) _ _ _); refine' ts_ge ?gqg ?gqh ?_ ?gqm; (case gqm => with_unfolding_all rfl); (case gqg => k_extra "gx"); (case gqh => k_extra "gx"); k_whole)
    | ((with_reducible show wpAny _ _ (isTrue (Expr.Compare _ [CmpOp.Eq] [_] _) _ _) _ _ _); refine' ts_eq ?gqg ?gqh ?_ ?gqm; (case gqm => with_unfolding_all rfl); (case gqg => k_extra "gx"); (case gqh => k_extra "gx"); k_whole)
    | ((with_reducible show wpAny _ _ (isTrue (Expr.Compare _ [CmpOp.NotEq] [_] _) _ _) _ _ _); refine' ts_ne ?gqg ?gqh ?_ ?gqm; (case gqm => with_unfolding_all rfl); (case gqg => k_extra "gx"); (case gqh => k_extra "gx"); k_whole))
  k_with "isTrue Compare Name" => k_extra "cmp"
  k_with "isTrue Compare Constant" => k_extra "cmp"
  k_with "isTrue Compare BinOp" => k_extra "cmp"
  k_with "isTrue Compare Attribute" => k_extra "cmp"
  k_with "enter" => (refine' code_any ?k1 ?k2 ?k3 ?k4 ?k5 ?kA ?kF ?kK ?k6 ?k7 ?k8 ?k9 ?kB ?_ ?c2 ?c3 ?c4 ?c5; (case kA => exact rfl); (case kF => exact rfl); (case kK => first | exact rfl | assumption); (case k1 => k_asm); (case k2 => k_asm); (case k3 => k_asm); (case k4 => k_asm); (case k5 => k_asm); (case k6 => k_is); (case k7 => k_is); (case k8 => k_room); (case k9 => first | exact BindsTo.of_eq rfl | exact binds_K (by k_in) rfl (by k_is) rfl rfl rfl); (case c5 => decide); (case kB => exact locs rfl); (case c2 => exact rfl); (case c3 => exact rfl); (case c4 => exact rfl); k_whole; intro g' L' h' tk' FG' F' N' B' X' T'; (try dsimp only); (try k_lift B'); (try k_fold))
  k_with "clsnew" => k_dflt (refine' call_cls ?k1 ?k2 ?k3 ?k4 ?k5 ?k6 ?_; (case k1 => k_asm); (case k2 => k_asm); (case k3 => k_asm); (case k4 => k_is); (case k5 => k_is); (case k6 => k_is); k_whole; intro x' d' h' F' N' l1 l2; (try k_lt l1); (try k_lt2 l2); (try k_sweep); k_extra "enter")
  k_with "setAttr ref" => (k_here; k_dflt (first
    | (refine' set_exc0 (C := 59) ?k1 ?k2 ?k3 ?k4 ?k5 ?k6 ?k7 ?_; (case k1 => k_asm); (case k2 => k_asm); (case k3 => k_asm); (case k4 => k_updF); (case k5 => k_is); (case k6 => kernel_rfl); (case k7 => k_is); intro d' h' tk' tk'' F' N' l1; (try k_lt l1); (try dsimp only at N'); (try k_sweep))
    | (refine' set_exc1 (C := 59) ?k1 ?k2 ?k3 ?kx ?k4 ?k5 ?k6 ?k7 ?k8 ?k9 ?kz ?_; (case k1 => k_asm); (case k2 => k_asm); (case k3 => k_asm); (case kx => k_mem); (case k4 => k_updF); (case k5 => k_is); (case k6 => kernel_rfl); (case k7 => k_is); (case k8 => rfl); (case k9 => intro _; rfl); (case kz => intro _; exact Nat.le_of_ble_eq_true rfl); intro h' tk' tk'' F' N'; (try dsimp only at N'); (try k_sweep))))
  k_with "call ref" => ((with_reducible show wpAny _ _ (call (Value.ref 59) _) _ _ _); k_dflt (refine' call_exc PySem.F.excBase_Exception ?k1 ?k2 ?k3 ?k4 ?k5 ?k6 ?k7 ?_; (case k1 => k_asm); (case k2 => k_asm); (case k3 => k_asm); (case k4 => exact exc59 _); (case k5 => k_is); (case k6 => k_is); (case k7 => size_fits); intro x' d' h' F' N' l1 l2; (try k_lt l1); (try k_lt2 l2); (try k_sweep); k_enter))
  k_with "getMethod type:Exception" => (k_here; refine' method_type ?F ?X ?m (by decide +kernel) ?e ?h ?_; (case F => k_asm); (case X => k_asm); (case m => exact meta_Exception); (case e => k_dflt k_is); (case h => k_handed))
  k_with "call builtin:Exception.__init__" => (k_here; k_dflt (refine' exc_init (C := 59) (newId := "Exception.__new__") ?k1 ?k2 ?k3 ?k4 ?k5 ?k6 ?_; (case k1 => k_asm); (case k2 => k_asm); (case k3 => k_asm); (case k4 => k_updF); (case k5 => exact exc59 _); (case k6 => size_fits); intro t' h' F' N' l1; (try k_lt l1); (try dsimp only at N'); (try k_sweep)))
  k_with "exec Raise some none" => (k_here; (with_reducible show wpAny _ _ (exec (Stmt.Raise (some (Expr.Call (Expr.Name _ _) (_ :: _) [] _)) none _) _) _ _ _); refine raise_ownE (C := 59) (newId := "Exception.__new__") rfl ?_)
  k_with "RaisableE" => (k_dflt (refine' raisableE ?k1 ?k2 ?k3 ?k4 ?k5 ?_; (case k1 => k_asm); (case k2 => k_asm); (case k3 => k_asm); (case k4 => k_mem); (case k5 => exact exc59 _)))
  k_with "InitBack error" => (k_dflt (unfold InitBack; dsimp only))
  k_fill
  intro mean mg mb dp un gd cn cs a ccd cl A₀ h₀ L m s Q E B F X N T hk hd hu hret
  refine wpAny_call ?_
  k_dflt (refine' enter_S0 ?k1 ?k2 ?k3 ?k4 ?k5 ?kA ?kF ?cK ?k6 ?k7 ?k8 ?k9 ?kB ?_ ?c2 ?c3 ?c4 ?c5; (case kA => exact rfl); (case k2 => k_asm); (case kF => exact rfl); (case k1 => k_asm); (case k3 => k_asm); (case k4 => k_asm); (case k5 => k_asm); (case k6 => k_is); (case k7 => k_is); (case k8 => ktr_room); (case k9 => exact BindsTo.of_eq rfl); (case kB => exact locs rfl); (case cK => assumption); (case c2 => exact rfl); (case c3 => exact rfl); (case c4 => exact rfl); (case c5 => decide); intro g' L' h' FG' F' N' B' X' T' D'; (try dsimp only); (try k_lift B'); (try k_fold))
  k_with "leaving ref" => k_dflt (
    refine leave_ownS (news' := rest) (by assumption) (by k_asm) (by k_asm) (by k_mem) (by k_mem) (by intro p hp; (repeat (first | exact hp | apply List.mem_cons_of_mem)); done) (by k_all) (by k_all) ?_; intro h' S' U'; (try dsimp only at S' U' ⊢))
  k_with "isTrue BoolOp Or cons" => ((fail_if_success (with_reducible show wpAny _ _ _ (TkPost _ _ _ _ _) _ _)); k_dflt (refine' test_join true ?tj1 ?tj2); (case tj1 => (rename RefC _ _ _ => hc9; unfold RefC at hc9; rcases hc9 with h1 | ⟨h1, h2⟩ | ⟨h1, h2, h3⟩ | ⟨h1, h2, h3, h4⟩ <;> (k_steps; exact ⟨rfl, _, rfl⟩))); intro tk'; (try dsimp only))
  k_steps
  all_goals (try dsimp only)
  all_goals (exact hret _ _ _ _ ⟨rfl, rfl⟩ (by k_asm) (by k_asm))

theorem claim0_use {w : World} {k : Nat} {f : Addr} {vs : List Value} {news : List (Addr × Obj)} {Ret : Value → List (Addr × Obj) → Prop} (C : Claim0 w k f vs news Ret)
    {mean : ExcName → Option Value} {mg mb : Str → Option Value} {dp un : Nat} {gd : Option (List Code)} {cn : Str} {cs : Scope} {a : Addr} {ccd : Value} {cl : List (Str × Addr)} {A₀ : Around} {h₀ : Heap} {L : Addr} {m : Str → Option Value} {s : Shared} {Q E : Value → Shared → Prop}
    (B : Below A₀ h₀ [] h₀) (F : Fr h₀ L s.heap m) (X : (hd.heap_39 w.params).In h₀) (N : News h₀ L s.heap news) (T : Top hd.view_39 (looseW hd.view_39 [Str.ofString "SettingError"]) mean mg mb h₀) (hk : cs.kind = .function)
    (hd : dp + k < recursionLimit) (hu : un + 8 * k < cLine)
    (ret : ∀ r news' h' tk', Ret r news' → Fr h₀ L h' m → News h₀ L h' news' → Q r { s with heap := h', toks := tk' }) :
    wpAny (model PySem.Challenge.rw_pc0359_01.row.prog w) (ktrTop dp un gd cn cs L a ccd cl []) (call (.ref f) vs) Q E s :=
  C mean mg mb dp un gd cn cs a ccd cl A₀ h₀ L m s Q E B F X N T hk hd hu ret
theorem use0_v {w : World} {k : Nat} {f : Addr} {vs : List Value} {v : Value} {news n0 : List (Addr × Obj)} (C : Claim0 w k f vs news (fun r n => r = v ∧ n = n0))
    {mean : ExcName → Option Value} {mg mb : Str → Option Value} {dp un : Nat} {gd : Option (List Code)} {cn : Str} {cs : Scope} {a : Addr} {ccd : Value} {cl : List (Str × Addr)} {A₀ : Around} {h₀ : Heap} {L : Addr} {m : Str → Option Value} {s : Shared} {Q E : Value → Shared → Prop}
    (B : Below A₀ h₀ [] h₀) (F : Fr h₀ L s.heap m) (X : (hd.heap_39 w.params).In h₀) (N : News h₀ L s.heap news) (T : Top hd.view_39 (looseW hd.view_39 [Str.ofString "SettingError"]) mean mg mb h₀) (hk : cs.kind = .function)
    (hd : dp + k < recursionLimit) (hu : un + 8 * k < cLine)
    (ret : ∀ h' tk', Fr h₀ L h' m → News h₀ L h' n0 → Q v { s with heap := h', toks := tk' }) :
    wpAny (model PySem.Challenge.rw_pc0359_01.row.prog w) (ktrTop dp un gd cn cs L a ccd cl []) (call (.ref f) vs) Q E s :=
  claim0_use C B F X N T hk hd hu fun r n h' tk' hr F' N' => by
    obtain ⟨rfl, rfl⟩ := hr
    exact ret h' tk' F' N'
end
section
open PySem PySem.W PySem.Calls PyProof.Rows
set_option maxRecDepth 100000
set_option linter.unusedVariables false
theorem curve_c {w : World} {c dc la : Addr} {k1 k2 k3 t1 t2 t3 u1 u2 u3 : Tok} {low high most : Int} {vs : List Value} {ns : List Int} {n : Nat} {news : List (Addr × Obj)}
    (hc : (c, instObj 120 dc) ∈ news) (hdc : (dc, curveObj w k1 k2 k3 low t1 high t2 most t3) ∈ news) (hla : (la, listOf vs.toArray n) ∈ news) (hn1 : @Ne Nat c dc) (hn2 : @Ne Nat c la) (hn3 : @Ne Nat dc la)
    (h0 : 0 ≤ low) (h1 : low < high) (h2 : high < 1000) (h3 : 0 ≤ most) (h4 : most < 1000) (hi : IntsAre vs ns)
    (hr : ∀ a ∈ ns, 0 ≤ a ∧ a < 1000) (hs : ∀ (i j : Nat) (a b : Int), i ≤ j → ns[i]? = some a → ns[j]? = some b → a ≤ b) :
    Claim w 12 204 [.ref c, .int low u1, .int high u2, .int most u3, .ref la] news (fun r news' => r = .bool true ∧ news' = news) := by
  refine claim_conv fun h₀ L h N => ?_
  obtain ⟨rest, ho, m1, m2⟩ := ro_only N [(c, instObj 120 dc), (dc, curveObj w k1 k2 k3 low t1 high t2 most t3), (la, listOf vs.toArray n)]
    (List.forall_mem_cons.mpr ⟨hc, List.forall_mem_cons.mpr ⟨hdc, List.forall_mem_cons.mpr ⟨hla, List.forall_mem_nil _⟩⟩⟩)
  refine ⟨_, _, curve_ok w c dc la k1 k2 k3 t1 t2 t3 u1 u2 u3 low high most vs ns n rest ho hn1 hn2 hn3 h0 h1 h2 h3 h4 hi hr hs, m1, ?_⟩
  rintro r n1 ⟨rfl, rfl⟩
  exact ⟨_, ⟨rfl, rfl⟩, m2⟩
theorem sorted_ix {ns : List Int} (o : List.Pairwise (fun x y => x ≤ y) ns) : ∀ (i j : Nat) (a b : Int), i ≤ j → ns[i]? = some a → ns[j]? = some b → a ≤ b := by
  intro i j a b hij ha hb
  obtain ⟨hi, rfl⟩ := List.getElem?_eq_some_iff.mp ha
  obtain ⟨hj, rfl⟩ := List.getElem?_eq_some_iff.mp hb
  rcases Nat.lt_or_eq_of_le hij with h | rfl
  · exact List.pairwise_iff_getElem.mp o i j hi hj h
  · exact Int.le_refl _
theorem levels_bd {ns : List Int} {low d : Int} (p : ns.Perm [0, low, low + 1, (low + (low + 1 + d)).fdiv 2, low + 1 + d - 1, low + 1 + d, low + 1 + d + 5]) (h0 : 0 ≤ low) (h1 : low < 20) (h2 : 0 ≤ d) (h3 : d < 20) : ∀ a ∈ ns, 0 ≤ a ∧ a < 1000 := by
  intro a ha
  have e : (low + (low + 1 + d)).fdiv 2 = (low + (low + 1 + d)) / 2 := Int.fdiv_eq_ediv_of_nonneg _ (by decide)
  have := p.mem_iff.mp ha
  rw [e] at this
  simp only [List.mem_cons, List.not_mem_nil, or_false] at this
  omega
end
section
open PySem PySem.W PySem.Calls PyProof.Rows
set_option maxRecDepth 100000
set_option linter.unusedVariables false
theorem queue_c {w : World} {sa c dc ba : Addr} {b m : Int} {k1 k2 k3 t1 t2 t3 u1 u2 u3 u4 u5 u6 u7 : Tok} {shift low high most room : Int} {n1 n2 : Nat} {news : List (Addr × Obj)} {g : Obj → List (Addr × Obj)}
    (U : UpdF sa (listOf #[.int b u3, .int m u4] n1) news g) (hc : (c, instObj 120 dc) ∈ news) (hdc : (dc, curveObj w k1 k2 k3 low t1 high t2 most t3) ∈ news)
    (hba : (ba, ({ cls := .type "tuple", data := .seq #[.int low u5, .int high u6, .int most u7] n2 } : Obj)) ∈ news)
    (hn1 : @Ne Nat c dc) (hn2 : @Ne Nat c ba) (hn3 : @Ne Nat dc ba) (hn4 : @Ne Nat c sa) (hn5 : @Ne Nat dc sa) (hn6 : @Ne Nat ba sa)
    (hb : 0 ≤ b) (hm : 0 ≤ m) (hm' : m < 2147483647) (hs0 : 0 ≤ shift) (hs1 : shift < 4)
    (h0 : 0 ≤ low) (h1 : low < high) (h2 : high < 1000) (h3 : 0 ≤ most) (h4 : most < 1000) (hr0 : 20 ≤ room) (hr1 : room < 50) :
    Claim w 12 214 [.ref sa, .int shift u1, .ref c, .ref ba, .int room u2] news
      (fun r news' => r = .bool true ∧ ∃ (b m : Int) (u3 u4 : Tok) (n1 : Nat), 0 ≤ b ∧ 0 ≤ m ∧ m < 2147483647 ∧ news' = g (listOf #[.int b u3, .int m u4] n1)) := by
  refine claim_conv fun h₀ L h N => ?_
  obtain ⟨rest, ho, m1, m2⟩ := upd_ro U N [(c, instObj 120 dc), (dc, curveObj w k1 k2 k3 low t1 high t2 most t3), (ba, { cls := .type "tuple", data := .seq #[.int low u5, .int high u6, .int most u7] n2 })]
    (List.forall_mem_cons.mpr ⟨hc, List.forall_mem_cons.mpr ⟨hdc, List.forall_mem_cons.mpr ⟨hba, List.forall_mem_nil _⟩⟩⟩)
    (List.forall_mem_cons.mpr ⟨hn4, List.forall_mem_cons.mpr ⟨hn5, List.forall_mem_cons.mpr ⟨hn6, List.forall_mem_nil _⟩⟩⟩)
  refine ⟨_, _, queue_ok w sa c dc ba b m k1 k2 k3 t1 t2 t3 u1 u2 u3 u4 u5 u6 u7 shift low high most room n1 n2 rest ?_ hn1 hn2 hn3 (Ne.symm hn4) (Ne.symm hn5) (Ne.symm hn6) hb hm hm' hs0 hs1 h0 h1 h2 h3 h4 hr0 hr1, ?_, ?_⟩
  · exact fun p hp x hx => ho p hp x (mem_mid [c, dc, ba] [] hx)
  · exact fun p hp => m1 p (mem_mid [_, _, _] rest hp)
  · rintro r nn ⟨hr, b', m', u3', u4', n1', e1, e2, e3, rfl⟩
    exact ⟨_, ⟨hr, b', m', u3', u4', n1', e1, e2, e3, rfl⟩, fun p hp => mid_mem [_, _, _] rest (m2 _ p hp)⟩
end
section
open PySem PySem.W PySem.Calls PyProof.Rows
set_option maxRecDepth 100000
set_option linter.unusedVariables false
section
variable {w : World} {mean : ExcName → Option Value} {mg mb : Str → Option Value} {dp un : Nat} {gd : Option (List Code)} {cn : Str} {cs : Scope} {a : Addr} {ccd : Value} {cl : List (Str × Addr)} {outer : List Env} {A₀ : Around} {base h₀ : Heap} {L : Addr} {m₀ : Str → Option Value} {s : Shared} {Q E : Value → Shared → Prop}
  {news : List (Addr × Obj)} {g : Obj → List (Addr × Obj)}
theorem queue_u {sa c dc ba : Addr} {b m : Int} {k1 k2 k3 t1 t2 t3 u1 u2 u3 u4 u5 u6 u7 : Tok} {shift low high most room : Int} {n1 n2 : Nat}
    (B : Below A₀ base outer h₀) (F : Fr h₀ L s.heap m₀) (X : (hd.heap_39 w.params).In h₀) (N : News h₀ L s.heap news) (T : Top hd.view_39 (looseW hd.view_39 [Str.ofString "SettingError"]) mean mg mb h₀) (hk : cs.kind = .function)
    (U : UpdF sa (listOf #[.int b u3, .int m u4] n1) news g) (hc : (c, instObj 120 dc) ∈ news) (hdc : (dc, curveObj w k1 k2 k3 low t1 high t2 most t3) ∈ news)
    (hba : (ba, ({ cls := .type "tuple", data := .seq #[.int low u5, .int high u6, .int most u7] n2 } : Obj)) ∈ news)
    (hn1 : @Ne Nat c dc) (hn2 : @Ne Nat c ba) (hn3 : @Ne Nat dc ba) (hn4 : @Ne Nat c sa) (hn5 : @Ne Nat dc sa) (hn6 : @Ne Nat ba sa)
    (hb : 0 ≤ b) (hm : 0 ≤ m) (hm' : m < 2147483647) (hs0 : 0 ≤ shift) (hs1 : shift < 4)
    (h0 : 0 ≤ low) (h1 : low < high) (h2 : high < 1000) (h3 : 0 ≤ most) (h4 : most < 1000) (hr0 : 20 ≤ room) (hr1 : room < 50)
    (hd : dp + 12 < recursionLimit) (hu : un + 96 < cLine)
    (ret : ∀ (b' m' : Int) (u3' u4' : Tok) (n' : Nat) h' tk', Fr h₀ L h' m₀ → News h₀ L h' (g (listOf #[.int b' u3', .int m' u4'] n')) → Q (.bool true) { s with heap := h', toks := tk' }) :
    wpAny (model PySem.Challenge.rw_pc0359_01.row.prog w) (ktrTop dp un gd cn cs L a ccd cl outer) (call (.ref 214) [.ref sa, .int shift u1, .ref c, .ref ba, .int room u2]) Q E s :=
  claim_use (queue_c U hc hdc hba hn1 hn2 hn3 hn4 hn5 hn6 hb hm hm' hs0 hs1 h0 h1 h2 h3 h4 hr0 hr1) B F X N T hk hd hu fun r n h' tk' hr F' N' => by
    obtain ⟨rfl, b', m', u3', u4', n', _, _, _, rfl⟩ := hr
    exact ret b' m' u3' u4' n' h' tk' F' N'
end
end
section
open PySem PySem.W PySem.Calls PyProof.Rows
set_option maxRecDepth 100000
set_option linter.unusedVariables false
noncomputable def lawDef : List Stmt × Scope := match PySem.Challenge.pw_pc0359_01.main.body.reverse with
  | .FunctionDef _ _ body _ _ _ scope _ _ _ :: _ => (body, scope)
  | _ => ([], { kind := .function, names := [], isGenerator := false, isCoroutine := false })
noncomputable def lawLoop : List Stmt := match lawDef.1 with
  | [_, _, _, .For _ _ body _ _, _] => body
  | _ => []
noncomputable def lawScope : Scope := lawDef.2
theorem most_of {v : Int} (h : v ∈ [0, 1, 30, 99]) : 0 ≤ v ∧ v < 100 := by
  simp only [List.mem_cons, List.not_mem_nil, or_false] at h
  omega
set_option maxHeartbeats 40000000 in
theorem turn_ok (w : World) {mean : ExcName → Option Value} {mg mb : Str → Option Value} {dp un : Nat} {gd : Option (List Code)} {cn : Str} {a : Addr} {ccd : Value} {cl : List (Str × Addr)} {outer : List Env} {A₀ : Around} {base h₀ : Heap} {L : Addr} {s : Shared} {R : Flow → Shared → Prop} {E : Value → Shared → Prop}
    (scope : Scope) (hsc : scope = lawScope) (body : List Stmt) (hbd : body = lawLoop) {l : Addr} {vs : List Value} {ns : List Int} {k : Int} {t : Tok} {u : Str → Option Value} {own : List (Addr × Obj)} {h : Heap} {tk : Nat}
    (B : Below A₀ base outer h₀) (F : Fr h₀ L h (fun y => if y = Str.ofString "k" then some (.int k t) else scM l u y)) (X : (hd.heap_39 w.params).In h₀) (N : News h₀ L h own) (T : Top hd.view_39 (looseW hd.view_39 [Str.ofString "SettingError"]) mean mg mb h₀)
    (hd : dp + 20 < recursionLimit) (hu : un + 160 < cLine)
    (hl : base.IsList l vs.toArray) (hi : IntsAre vs ns) (hlen : ns.length < 2 ^ 62) (hlay : PyData.layable0 (.list (ns.map .int)) = true) (hk0 : 0 ≤ k) (hk1 : k < 2)
    (hR : ∀ (h' : Heap) (tk' : Nat) (m' : Str → Option Value) (news' : List (Addr × Obj)), News h₀ L h' news' → (∀ p ∈ own, p ∈ news') → m' (Str.ofString "script") = some (.ref l) → Fr h₀ L h' m' → R .next { s with heap := h', toks := tk' }) :
    wpAny (model PySem.Challenge.rw_pc0359_01.row.prog w) (ktrTop dp un gd cn scope L a ccd cl outer) (execs body (envX cn scope L a ccd cl)) R E { s with heap := h, toks := tk } := by
  conv at hsc => rhs; whnf
  conv at hbd => rhs; whnf
  subst hsc hbd
  k_with_none
  w_top off
  k_with "om" => (first | k_extra "proj" | lia | omega (config := {}))
  k_with "pj" => (first | assumption | exact And.left (by assumption) | exact And.left (And.right (by assumption)) | exact And.left (And.right (And.right (by assumption))) | exact And.left (And.right (And.right (And.right (by assumption)))) | exact And.left (And.right (And.right (And.right (And.right (by assumption))))) | exact And.left (And.right (And.right (And.right (And.right (And.right (by assumption)))))) | exact And.left (And.right (And.right (And.right (And.right (And.right (And.right (by assumption))))))) | exact And.left (And.right (And.right (And.right (And.right (And.right (And.right (And.right (by assumption)))))))) | exact And.left (And.right (And.right (And.right (And.right (And.right (And.right (And.right (And.right (by assumption))))))))) | exact And.left (And.right (And.right (And.right (And.right (And.right (And.right (And.right (And.right (And.right (by assumption)))))))))) | exact And.left (And.right (And.right (And.right (And.right (And.right (And.right (And.right (And.right (And.right (And.right (by assumption))))))))))) | exact And.left (And.right (And.right (And.right (And.right (And.right (And.right (And.right (And.right (And.right (And.right (And.right (by assumption)))))))))))) | exact And.left (And.right (And.right (And.right (And.right (And.right (And.right (And.right (And.right (And.right (And.right (And.right (And.right (by assumption))))))))))))) | exact And.left (And.right (And.right (And.right (And.right (And.right (And.right (And.right (And.right (And.right (And.right (And.right (And.right (And.right (by assumption)))))))))))))) | exact And.right (by assumption) | exact And.right (And.right (by assumption)) | exact And.right (And.right (And.right (by assumption))) | exact And.right (And.right (And.right (And.right (by assumption)))) | exact And.right (And.right (And.right (And.right (And.right (by assumption))))) | exact And.right (And.right (And.right (And.right (And.right (And.right (by assumption)))))) | exact And.right (And.right (And.right (And.right (And.right (And.right (And.right (by assumption))))))) | exact And.right (And.right (And.right (And.right (And.right (And.right (And.right (And.right (by assumption)))))))) | exact And.right (And.right (And.right (And.right (And.right (And.right (And.right (And.right (And.right (by assumption))))))))) | exact And.right (And.right (And.right (And.right (And.right (And.right (And.right (And.right (And.right (And.right (by assumption)))))))))) | exact And.right (And.right (And.right (And.right (And.right (And.right (And.right (And.right (And.right (And.right (And.right (by assumption))))))))))) | exact And.right (And.right (And.right (And.right (And.right (And.right (And.right (And.right (And.right (And.right (And.right (And.right (by assumption)))))))))))) | exact And.right (And.right (And.right (And.right (And.right (And.right (And.right (And.right (And.right (And.right (And.right (And.right (And.right (by assumption))))))))))))))
  k_with "proj" => (first
    | (with_reducible assumption)
    | ((with_reducible show @Ne Nat _ _); (with_reducible first
      | (refine Nat.ne_of_gt ?_; k_extra "pj")
      | (refine Nat.ne_of_lt ?_; k_extra "pj")
      | (refine Nat.ne_of_gt (Nat.lt_trans ?_ (by assumption)); k_extra "pj")
      | (refine Nat.ne_of_lt (Nat.lt_trans ?_ (by assumption)); k_extra "pj")
      | k_extra "pj"
      | (refine Ne.symm ?_; k_extra "pj")
      | (first | exact And.left (And.left (by assumption)) | exact And.left (And.right (And.left (by assumption))) | exact And.right (And.right (And.left (by assumption))) | exact And.left (And.left (And.right (by assumption))) | exact And.left (And.right (And.left (And.right (by assumption)))) | exact And.right (And.right (And.left (And.right (by assumption)))) | exact And.left (And.left (And.right (And.right (by assumption)))) | exact And.left (And.right (And.left (And.right (And.right (by assumption))))) | exact And.right (And.right (And.left (And.right (And.right (by assumption))))) | exact And.left (And.left (And.right (And.right (And.right (by assumption))))) | exact And.left (And.right (And.left (And.right (And.right (And.right (by assumption)))))) | exact And.right (And.right (And.left (And.right (And.right (And.right (by assumption)))))) | exact And.left (And.left (And.right (And.right (And.right (And.right (by assumption)))))) | exact And.left (And.right (And.left (And.right (And.right (And.right (And.right (by assumption))))))) | exact And.right (And.right (And.left (And.right (And.right (And.right (And.right (by assumption))))))) | exact And.left (And.left (And.right (And.right (And.right (And.right (And.right (by assumption))))))) | exact And.left (And.right (And.left (And.right (And.right (And.right (And.right (And.right (by assumption)))))))) | exact And.right (And.right (And.left (And.right (And.right (And.right (And.right (And.right (by assumption)))))))))
      | (refine Ne.symm ?_; (first | exact And.left (And.left (by assumption)) | exact And.left (And.right (And.left (by assumption))) | exact And.right (And.right (And.left (by assumption))) | exact And.left (And.left (And.right (by assumption))) | exact And.left (And.right (And.left (And.right (by assumption)))) | exact And.right (And.right (And.left (And.right (by assumption)))) | exact And.left (And.left (And.right (And.right (by assumption)))) | exact And.left (And.right (And.left (And.right (And.right (by assumption))))) | exact And.right (And.right (And.left (And.right (And.right (by assumption))))) | exact And.left (And.left (And.right (And.right (And.right (by assumption))))) | exact And.left (And.right (And.left (And.right (And.right (And.right (by assumption)))))) | exact And.right (And.right (And.left (And.right (And.right (And.right (by assumption)))))) | exact And.left (And.left (And.right (And.right (And.right (And.right (by assumption)))))) | exact And.left (And.right (And.left (And.right (And.right (And.right (And.right (by assumption))))))) | exact And.right (And.right (And.left (And.right (And.right (And.right (And.right (by assumption))))))) | exact And.left (And.left (And.right (And.right (And.right (And.right (And.right (by assumption))))))) | exact And.left (And.right (And.left (And.right (And.right (And.right (And.right (And.right (by assumption)))))))) | exact And.right (And.right (And.left (And.right (And.right (And.right (And.right (And.right (by assumption))))))))))))
    | ((with_reducible show @LT.lt Nat _ _ _); (with_reducible k_extra "pj"))
    | ((with_reducible show @LE.le Nat _ _ _); (with_reducible first | exact Nat.le_refl _ | (refine Nat.le_of_lt ?_; k_extra "pj")))
    | ((with_reducible refine And.intro ?_ ?_) <;> omega)
    | (with_reducible (first | assumption | exact And.left (by assumption) | exact And.left (And.right (by assumption)) | exact And.left (And.right (And.right (by assumption))) | exact And.right (by assumption) | exact And.right (And.right (by assumption)))))
  k_with "updF" => k_dflt (rename Ap _ _ => hAp9; first | exact upd0 hAp9 | exact upd1 hAp9 | exact upd2 hAp9 | exact upd3 hAp9 | exact upd4 hAp9 | exact upd5 hAp9 | exact upd6 hAp9 | exact upd7 hAp9 | exact upd8 hAp9 | exact upd9 hAp9 | exact upd10 hAp9 | exact upd11 hAp9 | exact upd12 hAp9 | exact upd13 hAp9 | exact upd14 hAp9 | exact upd15 hAp9)
  k_with "upd" => k_dflt (rename Ap _ _ => hAp9; first | exact upe0 hAp9 | exact upe1 hAp9 | exact upe2 hAp9 | exact upe3 hAp9 | exact upe4 hAp9 | exact upe5 hAp9 | exact upe6 hAp9 | exact upe7 hAp9 | exact upe8 hAp9 | exact upe9 hAp9 | exact upe10 hAp9 | exact upe11 hAp9 | exact upe12 hAp9 | exact upe13 hAp9 | exact upe14 hAp9 | exact upe15 hAp9)
  k_with "lt" => ((rename (∀ p ∈ _, _ < _) => hL9); (try (rename Ap _ _ => hAp9; have hRaw := hL9; have hAp := Ap.push hAp9 hL9 rfl)); replace hL9 := allLt_of hL9; dsimp only [AllLt] at hL9)
  k_with "lt2" => ((with_reducible rename @LT.lt Nat _ _ _ => hL8); replace hL8 := ltN hL8; (try (rename Ap _ _ => hAp9; rename (∀ p ∈ _, _ < _) => hRaw9; have hAp := Ap.push2 hAp9 hRaw9 rfl hL8)))
  k_with "all" => (first | exact allLt_ne (by assumption) (by omega) | exact lt_neG (by assumption) (by omega))
  k_with "allmem" => (first | (with_reducible exact List.forall_mem_nil _) | ((with_reducible refine List.forall_mem_cons.mpr (And.intro ?_ ?_)); (focus k_mem); walk_at "allmem") | (intro p hp; (repeat (first | exact hp | apply List.mem_cons_of_mem)); done))
  k_with "storeName int" => k_dflt (refine' store_int ?gqF ?gqN ?_ ?gqa ?gqb; (case gqF => k_asm); (case gqN => k_asm); (case gqa => rfl); (case gqb => rfl); k_whole; intro t' h' tk' F' N'; (try k_sweep))
  k_with "storeName" => k_dflt (refine' store_any ?gqF ?gqN ?_ ?gqa ?gqb; (case gqF => k_asm); (case gqN => k_asm); (case gqa => rfl); (case gqb => rfl); k_whole; intro h' tk' F' N'; (try k_sweep))
  k_with "newTuple" => (k_dflt (first
    | (refine' tup_2 ?gqF ?gqN ?_; (case gqF => k_asm); (case gqN => k_asm); k_whole; intro t1' t2' D' h' tk' F' N' l1)
    | (refine' tup_3 ?gqF ?gqN ?_; (case gqF => k_asm); (case gqN => k_asm); k_whole; intro t1' t2' t3' D' h' tk' F' N' l1)
    | (refine' tup_any ?gqF ?gqN ?_ ?gqz; (case gqF => k_asm); (case gqN => k_asm); (case gqz => exact Nat.le_of_ble_eq_true rfl); k_whole; intro D' h' tk' F' N' l1)); (try k_lt l1); (try k_sweep))
  k_with "newList" => (k_dflt (first
    | (refine' list_4 ?gqF ?gqN ?_; (case gqF => k_asm); (case gqN => k_asm); k_whole; intro t1' t2' t3' t4' D' h' tk' F' N' l1)
    | (refine' list_1 ?gqF ?gqN ?_; (case gqF => k_asm); (case gqN => k_asm); k_whole; intro t1' D' h' tk' F' N' l1)
    | (refine' list_any ?gqF ?gqN ?_ ?gqz; (case gqF => k_asm); (case gqN => k_asm); (case gqz => exact Nat.le_of_ble_eq_true rfl); k_whole; intro D' h' tk' F' N' l1)); (try k_lt l1); (try k_sweep))
  k_with "exec Assign cons Call" => k_fold
  k_with "exec Assign cons Tuple" => k_fold
  k_with "exec If BoolOp cons nil" => k_fold
  k_with "exec If UnaryOp cons nil" => k_fold
  k_with "exec If Compare cons nil" => k_fold
  k_with "exec Assign cons BinOp" => k_fold
  k_with "exec Expr Call" => k_fold
  k_with "exec Assign cons Compare" => k_fold
  k_with "exec Assign cons Subscript" => k_fold
  k_with "exec If Name cons nil" => k_fold
  k_with "gx" => k_dflt (first
    | exact gv_int
    | (refine' gv_name ?gqF ?gqv ?gqa ?gqb ?gqc; (case gqF => k_asm); (case gqa => rfl); (case gqb => rfl); (case gqv => exact @rfl _ (some _)); (case gqc => decide))
    | (refine' gv_cell ?gqN ?gqc ?gqm ?gqd ?gqa ?gqb ?gqe; (case gqa => rfl); (case gqb => rfl); (case gqN => k_asm); (case gqc => rfl); (case gqm => k_mem); (case gqd => k_asm); (case gqe => decide))
    | (refine' gv_glob ?gqF ?gqX ?gqT ?gqe ?gqa ?gqb ?gqc; (case gqF => k_asm); (case gqX => k_asm); (case gqT => k_asm); (case gqa => rfl); (case gqb => rfl); (case gqe => k_is); (case gqc => decide))
    | (refine' gv_add ?gqg ?gqh; (case gqg => k_extra "gx"); (case gqh => k_extra "gx"))
    | (refine' gv_sub ?gqg ?gqh; (case gqg => k_extra "gx"); (case gqh => k_extra "gx"))
    | (refine' gv_attr ?gqg ?gqk1 ?gqk2 ?gqk3 ?gqk4 ?gqk5 ?gqk6 ?gqk7 ?gqk8 ?gqk9 ?gqe; (case gqg => k_extra "gx"); (case gqk1 => k_asm); (case gqk2 => k_asm); (case gqk3 => k_inst); (case gqk4 => k_is); (case gqk5 => k_is); (case gqk6 => k_is); (case gqk7 => k_is); (case gqk8 => k_get); (case gqk9 => k_handed); (case gqe => with_unfolding_all rfl)))
  k_with "gl" => k_dflt (first
    | exact gl_nil
    | (refine' gl_cons ?gqg ?gqh ?gqe; (case gqe => rfl); (case gqg => k_extra "gx"); (case gqh => k_extra "gl")))
  k_with "callWith ref" => (k_dflt (refine' callWith_gv ?gqX ?gqF ?gqk ?gqg ?_ ?gqe ?gqp; (case gqX => k_asm); (case gqF => k_asm); (case gqk => k_is); (case gqe => rfl); (case gqp => rfl); (case gqg => k_extra "gl"); k_whole); (try dsimp only [List.nil_append, List.cons_append]))
  k_with "eval Call Name cons nil" => k_dflt (refine' call_gv ?gqX ?gqF ?gqf ?gqk ?gqg ?_ ?gqc ?gqe ?gqp; (case gqX => k_asm); (case gqF => k_asm); (case gqc => rfl); (case gqe => rfl); (case gqp => rfl); (case gqf => k_extra "gx"); (case gqk => k_is); (case gqg => k_extra "gl"); k_whole)
  k_with "eval Name" => k_dflt (refine' nameX_L ?gqF ?gqv ?_ ?gqa ?gqb ?gqc; (case gqF => k_asm); (case gqa => rfl); (case gqb => rfl); (case gqv => exact @rfl _ (some _)); (case gqc => decide); k_whole)
  k_with "spliced" => (k_dflt (refine' spliced_gv ?gqg ?_; (case gqg => k_extra "gl"); k_whole); (try dsimp only [List.nil_append, List.cons_append]))
  k_with "eval BinOp" => k_dflt (refine' eval_gv ?gqg ?_; (case gqg => k_extra "gx"); k_whole)
  k_with "eval Attribute Name" => k_dflt (refine' eval_gv ?gqg ?_; (case gqg => k_extra "gx"); k_whole)
  k_with "cmp" => k_dflt (first
    | ((with_reducible show wpAny _ _ (isTrue (Expr.Compare _ [CmpOp.Lt] [_] _) _ _) _ _ _); refine' ts_lt ?gqg ?gqh ?_ ?gqm; (case gqm => with_unfolding_all rfl); (case gqg => k_extra "gx"); (case gqh => k_extra "gx"); k_whole)
    | ((with_reducible show wpAny _ _ (isTrue (Expr.Compare _ [CmpOp.LtE] [_] _) _ _) _ _ _); refine' ts_le ?gqg ?gqh ?_ ?gqm; (case gqm => with_unfolding_all rfl); (case gqg => k_extra "gx"); (case gqh => k_extra "gx"); k_whole)
    | ((with_reducible show wpAny _ _ (isTrue (Expr.Compare _ [CmpOp.Gt] [_] _) _ _) _ _ _); refine' ts_gt ?gqg ?gqh ?_ ?gqm; (case gqm => with_unfolding_all rfl); (case gqg => k_extra "gx"); (case gqh => k_extra "gx"); k_whole)
    | ((with_reducible show wpAny _ _ (isTrue (Expr.Compare _ [CmpOp.GtE] [_] _) _ _) _ _ _); refine' ts_ge ?gqg ?gqh ?_ ?gqm; (case gqm => with_unfolding_all rfl); (case gqg => k_extra "gx"); (case gqh => k_extra "gx"); k_whole)
    | ((with_reducible show wpAny _ _ (isTrue (Expr.Compare _ [CmpOp.Eq] [_] _) _ _) _ _ _); refine' ts_eq ?gqg ?gqh ?_ ?gqm; (case gqm => with_unfolding_all rfl); (case gqg => k_extra "gx"); (case gqh => k_extra "gx"); k_whole)
    | ((with_reducible show wpAny _ _ (isTrue (Expr.Compare _ [CmpOp.NotEq] [_] _) _ _) _ _ _); refine' ts_ne ?gqg ?gqh ?_ ?gqm; (case gqm => with_unfolding_all rfl); (case gqg => k_extra "gx"); (case gqh => k_extra "gx"); k_whole))
  k_with "isTrue Compare Name" => k_extra "cmp"
  k_with "isTrue Compare Constant" => k_extra "cmp"
  k_with "isTrue Compare BinOp" => k_extra "cmp"
  k_with "isTrue Compare Attribute" => k_extra "cmp"
  k_with "enter" => (refine' code_any ?k1 ?k2 ?k3 ?k4 ?k5 ?kA ?kF ?kK ?k6 ?k7 ?k8 ?k9 ?kB ?_ ?c2 ?c3 ?c4 ?c5; (case kA => exact rfl); (case kF => exact rfl); (case kK => first | exact rfl | assumption); (case k1 => k_asm); (case k2 => k_asm); (case k3 => k_asm); (case k4 => k_asm); (case k5 => k_asm); (case k6 => k_is); (case k7 => k_is); (case k8 => k_room); (case k9 => first | exact BindsTo.of_eq rfl | exact binds_K (by k_in) rfl (by k_is) rfl rfl rfl); (case c5 => decide); (case kB => exact locs rfl); (case c2 => exact rfl); (case c3 => exact rfl); (case c4 => exact rfl); k_whole; intro g' L' h' tk' FG' F' N' B' X' T'; (try dsimp only); (try k_lift B'); (try k_fold))
  k_with "clsnew" => k_dflt (refine' call_cls ?k1 ?k2 ?k3 ?k4 ?k5 ?k6 ?_; (case k1 => k_asm); (case k2 => k_asm); (case k3 => k_asm); (case k4 => k_is); (case k5 => k_is); (case k6 => k_is); k_whole; intro x' d' h' F' N' l1 l2; (try k_lt l1); (try k_lt2 l2); (try k_sweep); k_extra "enter")
  revert X; k_fill; intro X
  have hAp0 : Ap 0 (own.map Prod.fst) := trivial
  k_with "call ref" => k_dflt (
    (with_reducible show wpAny _ _ (call (Value.ref 180) _) _ _ _)
    refine pool_use (by k_asm) (by k_asm) (by k_asm) (by k_asm) (by k_asm) (by first | exact rfl | assumption) (by assumption) (by assumption) (by omega) (by assumption) (by omega) (by omega) (by ktr_room) (by ktr_units) ?_
    intro sa9 b9 m9 t91 t92 n9 h9 tk9 hb9 hm91 hm92 l9 F9 N9
    (try k_lt l9)
    (try dsimp only at N9)
    (try dsimp only)
    (try k_fold)
    skip)
  k_with "call ref" => k_dflt (
    (with_reducible show wpAny _ _ (call (Value.ref 187) _) _ _ _)
    refine' take_use ?k1 ?k2 ?k3 ?k4 ?k5 ?kK ?kU ?hb ?hm ?hm' ?ht ?ht' ?kd ?ku ?_
    (case k1 => k_asm)
    (case k2 => k_asm)
    (case k3 => k_asm)
    (case k5 => k_asm)
    (case k4 => k_asm)
    (case kU => k_updF)
    (case hb => assumption)
    (case hm => assumption)
    (case hm' => assumption)
    (case ht => decide)
    (case ht' => decide)
    (case kK => first | exact rfl | assumption)
    (case kd => first | exact room1 (by assumption) (by decide) | exact room2 (by assumption) (by decide) | ktr_room)
    (case ku => first | exact room1 (by assumption) (by decide) | exact room2 (by assumption) (by decide) | ktr_units)
    intro b9 m9 d9 t91 t92 t93 n9 h9 tk9 hd91 hd92 hb9 hm91 hm92 F9 N9
    (try dsimp only at N9)
    (try dsimp only)
    (try k_fold)
    skip)
  k_with "call ref" => k_dflt (
    (with_reducible show wpAny _ _ (call (Value.ref 194) _) _ _ _)
    refine' one_u ?k1 ?k2 ?k3 ?k4 ?k5 ?kK ?kU ?kt ?kn ?ki ?hb ?hm ?hm' ?ht ?ht' ?kd ?ku ?_
    (case k1 => k_asm)
    (case k2 => k_asm)
    (case k3 => k_asm)
    (case k5 => k_asm)
    (case k4 => k_asm)
    (case kU => k_updF)
    (case kt => k_mem)
    (case kn => k_ne)
    (case ki => l_ints)
    (case hb => assumption)
    (case hm => assumption)
    (case hm' => assumption)
    (case ht => exact Nat.le_of_ble_eq_true rfl)
    (case ht' => exact Nat.le_of_ble_eq_true rfl)
    (case kK => first | exact rfl | assumption)
    (case kd => first | exact room1 (by assumption) (by decide) | exact room2 (by assumption) (by decide) | ktr_room)
    (case ku => first | exact room1 (by assumption) (by decide) | exact room2 (by assumption) (by decide) | ktr_units)
    intro v9 b9 m9 t91 t92 t93 n9 h9 tk9 hv9 hb9 hm91 hm92 F9 N9
    have hv8 := most_of hv9
    clear hv9
    (try dsimp only at N9)
    (try dsimp only)
    (try k_fold)
    skip)
  k_with "call ref" => k_dflt (
    (with_reducible show wpAny _ _ (call (Value.ref 204) _) _ _ _)
    (try (rename (_ ∨ _) ∧ _ => hx; clear hx))
    refine' use_v (curve_c ?hc ?hdc ?hla ?hn1 ?hn2 ?hn3 ?h0 ?h1 ?h2 ?h3 ?h4 ?hi ?hr ?hs) ?k1 ?k2 ?k3 ?k4 ?k5 ?kK ?kd ?ku ?_
    (case k1 => k_asm)
    (case k2 => k_asm)
    (case k3 => k_asm)
    (case k5 => k_asm)
    (case k4 => k_asm)
    (case hc => k_mem)
    (case hdc => k_mem)
    (case hla => k_mem)
    (case hn1 => k_ne)
    (case hn2 => k_ne)
    (case hn3 => k_ne)
    (case h0 => omega)
    (case h1 => omega)
    (case h2 => omega)
    (case h3 => omega)
    (case h4 => omega)
    (case hi => assumption)
    (case hr => exact levels_bd (by assumption) (by omega) (by omega) (by omega) (by omega))
    (case hs => exact sorted_ix (by assumption))
    (case kK => first | exact rfl | assumption)
    (case kd => first | exact room1 (by assumption) (by decide) | exact room2 (by assumption) (by decide) | ktr_room)
    (case ku => first | exact room1 (by assumption) (by decide) | exact room2 (by assumption) (by decide) | ktr_units)
    intro h9 tk9 F9 N9
    (try dsimp only at N9)
    (try dsimp only)
    (try k_fold)
    skip)
  k_with "call ref" => k_dflt (
    (with_reducible show wpAny _ _ (call (Value.ref 209) _) _ _ _)
    refine' use_v (comes_ok _ _ _ _ _ _ _ _ ?h0 ?h1 ?h2 ?h3 ?h4 ?h5) ?k1 ?k2 ?k3 ?k4 ?k5 ?kK ?kd ?ku ?_
    (case k1 => k_asm)
    (case k2 => k_asm)
    (case k3 => k_asm)
    (case k5 => k_asm)
    (case k4 => k_asm)
    (case h0 => omega)
    (case h1 => omega)
    (case h2 => omega)
    (case h3 => omega)
    (case h4 => omega)
    (case h5 => omega)
    (case kK => first | exact rfl | assumption)
    (case kd => first | exact room1 (by assumption) (by decide) | exact room2 (by assumption) (by decide) | ktr_room)
    (case ku => first | exact room1 (by assumption) (by decide) | exact room2 (by assumption) (by decide) | ktr_units)
    intro h9 tk9 F9 N9
    (try dsimp only at N9)
    (try dsimp only)
    (try k_fold)
    skip)
  k_with "call ref" => k_dflt (
    (with_reducible show wpAny _ _ (call (Value.ref 214) _) _ _ _)
    refine' queue_u ?k1 ?k2 ?k3 ?k4 ?k5 ?kK ?kU ?hc ?hdc ?hba ?hn1 ?hn2 ?hn3 ?hn4 ?hn5 ?hn6 ?hb ?hm ?hm' ?hs0 ?hs1 ?h0 ?h1 ?h2 ?h3 ?h4 ?h5 ?h6 ?kd ?ku ?_
    (case k1 => k_asm)
    (case k2 => k_asm)
    (case k3 => k_asm)
    (case k5 => k_asm)
    (case k4 => k_asm)
    (case kU => k_updF)
    (case hc => k_mem)
    (case hdc => k_mem)
    (case hba => k_mem)
    (case hn1 => k_ne)
    (case hn2 => k_ne)
    (case hn3 => k_ne)
    (case hn4 => k_ne)
    (case hn5 => k_ne)
    (case hn6 => k_ne)
    (case hb => assumption)
    (case hm => assumption)
    (case hm' => assumption)
    (case hs0 => omega)
    (case hs1 => omega)
    (case h0 => omega)
    (case h1 => omega)
    (case h2 => omega)
    (case h3 => omega)
    (case h4 => omega)
    (case h5 => omega)
    (case h6 => omega)
    (case kK => first | exact rfl | assumption)
    (case kd => first | exact room1 (by assumption) (by decide) | exact room2 (by assumption) (by decide) | ktr_room)
    (case ku => first | exact room1 (by assumption) (by decide) | exact room2 (by assumption) (by decide) | ktr_units)
    intro b9 m9 t91 t92 n9 h9 tk9 F9 N9
    (try dsimp only at N9)
    (try dsimp only)
    (try k_fold)
    skip)
  k_with "call ref" => k_dflt (
    (with_reducible show wpAny _ _ (call (Value.ref 120) _) _ _ _)
    refine' curve_new ?k1 ?k2 ?k3 ?k4 ?k5 ?kK ?h0 ?h1 ?h2 ?h3 ?kd ?ku ?_
    (case k1 => k_asm)
    (case k2 => k_asm)
    (case k3 => k_asm)
    (case k5 => k_asm)
    (case k4 => k_asm)
    (case h0 => omega)
    (case h1 => omega)
    (case h2 => omega)
    (case h3 => omega)
    (case kK => first | exact rfl | assumption)
    (case kd => first | exact room1 (by assumption) (by decide) | exact room2 (by assumption) (by decide) | ktr_room)
    (case ku => first | exact room1 (by assumption) (by decide) | exact room2 (by assumption) (by decide) | ktr_units)
    intro x9 d9 k19 k29 k39 t19 t29 t39 h9 tk9 l19 l29 F9 N9
    (try k_lt l19)
    (try k_lt2 l29)
    (try dsimp only at N9)
    (try dsimp only)
    (try k_fold)
    skip)
  k_steps
  all_goals (try dsimp only)
  all_goals (refine hR _ _ _ _ (by k_asm) (by (intro p hp; (repeat (first | exact hp | apply List.mem_cons_of_mem)); done)) ?_ (by k_asm))
  all_goals rfl
end
section
open PySem PySem.W PySem.Calls PyProof.Rows
set_option maxRecDepth 100000
set_option linter.unusedVariables false
noncomputable def refLoop : Expr × List Stmt := match lawDef.1 with
  | [_, _, .For t _ body _ _, _, _] => (t, body)
  | _ => (.Name (Str.ofString "") ⟨0, 0, 0, 0⟩, [])
/-- a turn of the law's loop over the curves that cannot be -/
theorem reft_ok (w : World) {mean : ExcName → Option Value} {mg mb : Str → Option Value} {dp un : Nat} {gd : Option (List Code)} {cn : Str} {a : Addr} {ccd : Value} {cl : List (Str × Addr)} {A₀ : Around} {h₀ : Heap} {L : Addr} {s : Shared} {R : Flow → Shared → Prop} {E : Value → Shared → Prop}
    (scope : Scope) (hsc : scope = lawScope) (target : Expr) (body : List Stmt) (hbd : (target, body) = refLoop) {l D : Addr} {x y z : Int} {tx ty tz : Tok} {u : Str → Option Value} {own : List (Addr × Obj)} {h : Heap} {tk : Nat}
    (B : Below A₀ h₀ [] h₀) (X : (hd.heap_39 w.params).In h₀) (T : Top hd.view_39 (looseW hd.view_39 [Str.ofString "SettingError"]) mean mg mb h₀) (hd : dp + 10 < recursionLimit) (hu : un + 80 < cLine)
    (hc : RefC x y z) (hT : IsTup h D #[.int x tx, .int y ty, .int z tz]) (F : Fr h₀ L h (scM l u)) (N : News h₀ L h own)
    (hR : ∀ (h' : Heap) (tk' : Nat) (m' : Str → Option Value), m' (Str.ofString "script") = some (.ref l) → Fr h₀ L h' m' → News h₀ L h' own → R .next { s with heap := h', toks := tk' }) :
    wpAny (model PySem.Challenge.rw_pc0359_01.row.prog w) (ktrTop dp un gd cn scope L a ccd cl []) (assign target (envX cn scope L a ccd cl) (.ref D)) (fun _ s₂ => wpAny (model PySem.Challenge.rw_pc0359_01.row.prog w) (ktrTop dp un gd cn scope L a ccd cl []) (execs body (envX cn scope L a ccd cl)) R E s₂) E { s with heap := h, toks := tk } := by
  conv at hsc => rhs; whnf
  conv at hbd => rhs; whnf
  obtain ⟨rfl, rfl⟩ := Prod.mk.inj hbd
  subst hsc
  k_with_none
  w_top off
  k_with "om" => (first | k_extra "proj" | lia | omega (config := {}))
  k_with "pj" => (first | assumption | exact And.left (by assumption) | exact And.left (And.right (by assumption)) | exact And.left (And.right (And.right (by assumption))) | exact And.left (And.right (And.right (And.right (by assumption)))) | exact And.left (And.right (And.right (And.right (And.right (by assumption))))) | exact And.left (And.right (And.right (And.right (And.right (And.right (by assumption)))))) | exact And.left (And.right (And.right (And.right (And.right (And.right (And.right (by assumption))))))) | exact And.left (And.right (And.right (And.right (And.right (And.right (And.right (And.right (by assumption)))))))) | exact And.left (And.right (And.right (And.right (And.right (And.right (And.right (And.right (And.right (by assumption))))))))) | exact And.left (And.right (And.right (And.right (And.right (And.right (And.right (And.right (And.right (And.right (by assumption)))))))))) | exact And.left (And.right (And.right (And.right (And.right (And.right (And.right (And.right (And.right (And.right (And.right (by assumption))))))))))) | exact And.left (And.right (And.right (And.right (And.right (And.right (And.right (And.right (And.right (And.right (And.right (And.right (by assumption)))))))))))) | exact And.left (And.right (And.right (And.right (And.right (And.right (And.right (And.right (And.right (And.right (And.right (And.right (And.right (by assumption))))))))))))) | exact And.left (And.right (And.right (And.right (And.right (And.right (And.right (And.right (And.right (And.right (And.right (And.right (And.right (And.right (by assumption)))))))))))))) | exact And.right (by assumption) | exact And.right (And.right (by assumption)) | exact And.right (And.right (And.right (by assumption))) | exact And.right (And.right (And.right (And.right (by assumption)))) | exact And.right (And.right (And.right (And.right (And.right (by assumption))))) | exact And.right (And.right (And.right (And.right (And.right (And.right (by assumption)))))) | exact And.right (And.right (And.right (And.right (And.right (And.right (And.right (by assumption))))))) | exact And.right (And.right (And.right (And.right (And.right (And.right (And.right (And.right (by assumption)))))))) | exact And.right (And.right (And.right (And.right (And.right (And.right (And.right (And.right (And.right (by assumption))))))))) | exact And.right (And.right (And.right (And.right (And.right (And.right (And.right (And.right (And.right (And.right (by assumption)))))))))) | exact And.right (And.right (And.right (And.right (And.right (And.right (And.right (And.right (And.right (And.right (And.right (by assumption))))))))))) | exact And.right (And.right (And.right (And.right (And.right (And.right (And.right (And.right (And.right (And.right (And.right (And.right (by assumption)))))))))))) | exact And.right (And.right (And.right (And.right (And.right (And.right (And.right (And.right (And.right (And.right (And.right (And.right (And.right (by assumption))))))))))))))
  k_with "proj" => (first
    | (with_reducible assumption)
    | ((with_reducible show @Ne Nat _ _); (with_reducible first
      | (refine Nat.ne_of_gt ?_; k_extra "pj")
      | (refine Nat.ne_of_lt ?_; k_extra "pj")
      | (refine Nat.ne_of_gt (Nat.lt_trans ?_ (by assumption)); k_extra "pj")
      | (refine Nat.ne_of_lt (Nat.lt_trans ?_ (by assumption)); k_extra "pj")
      | k_extra "pj"
      | (refine Ne.symm ?_; k_extra "pj")
      | (first | exact And.left (And.left (by assumption)) | exact And.left (And.right (And.left (by assumption))) | exact And.right (And.right (And.left (by assumption))) | exact And.left (And.left (And.right (by assumption))) | exact And.left (And.right (And.left (And.right (by assumption)))) | exact And.right (And.right (And.left (And.right (by assumption)))) | exact And.left (And.left (And.right (And.right (by assumption)))) | exact And.left (And.right (And.left (And.right (And.right (by assumption))))) | exact And.right (And.right (And.left (And.right (And.right (by assumption))))) | exact And.left (And.left (And.right (And.right (And.right (by assumption))))) | exact And.left (And.right (And.left (And.right (And.right (And.right (by assumption)))))) | exact And.right (And.right (And.left (And.right (And.right (And.right (by assumption)))))) | exact And.left (And.left (And.right (And.right (And.right (And.right (by assumption)))))) | exact And.left (And.right (And.left (And.right (And.right (And.right (And.right (by assumption))))))) | exact And.right (And.right (And.left (And.right (And.right (And.right (And.right (by assumption))))))) | exact And.left (And.left (And.right (And.right (And.right (And.right (And.right (by assumption))))))) | exact And.left (And.right (And.left (And.right (And.right (And.right (And.right (And.right (by assumption)))))))) | exact And.right (And.right (And.left (And.right (And.right (And.right (And.right (And.right (by assumption)))))))))
      | (refine Ne.symm ?_; (first | exact And.left (And.left (by assumption)) | exact And.left (And.right (And.left (by assumption))) | exact And.right (And.right (And.left (by assumption))) | exact And.left (And.left (And.right (by assumption))) | exact And.left (And.right (And.left (And.right (by assumption)))) | exact And.right (And.right (And.left (And.right (by assumption)))) | exact And.left (And.left (And.right (And.right (by assumption)))) | exact And.left (And.right (And.left (And.right (And.right (by assumption))))) | exact And.right (And.right (And.left (And.right (And.right (by assumption))))) | exact And.left (And.left (And.right (And.right (And.right (by assumption))))) | exact And.left (And.right (And.left (And.right (And.right (And.right (by assumption)))))) | exact And.right (And.right (And.left (And.right (And.right (And.right (by assumption)))))) | exact And.left (And.left (And.right (And.right (And.right (And.right (by assumption)))))) | exact And.left (And.right (And.left (And.right (And.right (And.right (And.right (by assumption))))))) | exact And.right (And.right (And.left (And.right (And.right (And.right (And.right (by assumption))))))) | exact And.left (And.left (And.right (And.right (And.right (And.right (And.right (by assumption))))))) | exact And.left (And.right (And.left (And.right (And.right (And.right (And.right (And.right (by assumption)))))))) | exact And.right (And.right (And.left (And.right (And.right (And.right (And.right (And.right (by assumption))))))))))))
    | ((with_reducible show @LT.lt Nat _ _ _); (with_reducible k_extra "pj"))
    | ((with_reducible show @LE.le Nat _ _ _); (with_reducible first | exact Nat.le_refl _ | (refine Nat.le_of_lt ?_; k_extra "pj")))
    | ((with_reducible refine And.intro ?_ ?_) <;> omega)
    | (with_reducible (first | assumption | exact And.left (by assumption) | exact And.left (And.right (by assumption)) | exact And.left (And.right (And.right (by assumption))) | exact And.right (by assumption) | exact And.right (And.right (by assumption)))))
  k_with "updF" => k_dflt (rename Ap _ _ => hAp9; first | exact upd0 hAp9 | exact upd1 hAp9 | exact upd2 hAp9 | exact upd3 hAp9 | exact upd4 hAp9 | exact upd5 hAp9 | exact upd6 hAp9 | exact upd7 hAp9 | exact upd8 hAp9 | exact upd9 hAp9 | exact upd10 hAp9 | exact upd11 hAp9 | exact upd12 hAp9 | exact upd13 hAp9 | exact upd14 hAp9 | exact upd15 hAp9)
  k_with "upd" => k_dflt (rename Ap _ _ => hAp9; first | exact upe0 hAp9 | exact upe1 hAp9 | exact upe2 hAp9 | exact upe3 hAp9 | exact upe4 hAp9 | exact upe5 hAp9 | exact upe6 hAp9 | exact upe7 hAp9 | exact upe8 hAp9 | exact upe9 hAp9 | exact upe10 hAp9 | exact upe11 hAp9 | exact upe12 hAp9 | exact upe13 hAp9 | exact upe14 hAp9 | exact upe15 hAp9)
  k_with "lt" => ((rename (∀ p ∈ _, _ < _) => hL9); (try (rename Ap _ _ => hAp9; have hRaw := hL9; have hAp := Ap.push hAp9 hL9 rfl)); replace hL9 := allLt_of hL9; dsimp only [AllLt] at hL9)
  k_with "lt2" => ((with_reducible rename @LT.lt Nat _ _ _ => hL8); replace hL8 := ltN hL8; (try (rename Ap _ _ => hAp9; rename (∀ p ∈ _, _ < _) => hRaw9; have hAp := Ap.push2 hAp9 hRaw9 rfl hL8)))
  k_with "all" => (first | exact allLt_ne (by assumption) (by omega) | exact lt_neG (by assumption) (by omega))
  k_with "allmem" => (first | (with_reducible exact List.forall_mem_nil _) | ((with_reducible refine List.forall_mem_cons.mpr (And.intro ?_ ?_)); (focus k_mem); walk_at "allmem") | (intro p hp; (repeat (first | exact hp | apply List.mem_cons_of_mem)); done))
  k_with "storeName int" => k_dflt (refine' store_int ?gqF ?gqN ?_ ?gqa ?gqb; (case gqF => k_asm); (case gqN => k_asm); (case gqa => rfl); (case gqb => rfl); k_whole; intro t' h' tk' F' N'; (try k_sweep))
  k_with "storeName" => k_dflt (refine' store_any ?gqF ?gqN ?_ ?gqa ?gqb; (case gqF => k_asm); (case gqN => k_asm); (case gqa => rfl); (case gqb => rfl); k_whole; intro h' tk' F' N'; (try k_sweep))
  k_with "newTuple" => (k_dflt (first
    | (refine' tup_2 ?gqF ?gqN ?_; (case gqF => k_asm); (case gqN => k_asm); k_whole; intro t1' t2' D' h' tk' F' N' l1)
    | (refine' tup_3 ?gqF ?gqN ?_; (case gqF => k_asm); (case gqN => k_asm); k_whole; intro t1' t2' t3' D' h' tk' F' N' l1)
    | (refine' tup_any ?gqF ?gqN ?_ ?gqz; (case gqF => k_asm); (case gqN => k_asm); (case gqz => exact Nat.le_of_ble_eq_true rfl); k_whole; intro D' h' tk' F' N' l1)); (try k_lt l1); (try k_sweep))
  k_with "newList" => (k_dflt (first
    | (refine' list_4 ?gqF ?gqN ?_; (case gqF => k_asm); (case gqN => k_asm); k_whole; intro t1' t2' t3' t4' D' h' tk' F' N' l1)
    | (refine' list_1 ?gqF ?gqN ?_; (case gqF => k_asm); (case gqN => k_asm); k_whole; intro t1' D' h' tk' F' N' l1)
    | (refine' list_any ?gqF ?gqN ?_ ?gqz; (case gqF => k_asm); (case gqN => k_asm); (case gqz => exact Nat.le_of_ble_eq_true rfl); k_whole; intro D' h' tk' F' N' l1)); (try k_lt l1); (try k_sweep))
  k_with "exec Assign cons Call" => k_fold
  k_with "exec Assign cons Tuple" => k_fold
  k_with "exec If BoolOp cons nil" => k_fold
  k_with "exec If UnaryOp cons nil" => k_fold
  k_with "exec If Compare cons nil" => k_fold
  k_with "exec Assign cons BinOp" => k_fold
  k_with "exec Expr Call" => k_fold
  k_with "exec Assign cons Compare" => k_fold
  k_with "exec Assign cons Subscript" => k_fold
  k_with "exec If Name cons nil" => k_fold
  k_with "gx" => k_dflt (first
    | exact gv_int
    | (refine' gv_name ?gqF ?gqv ?gqa ?gqb ?gqc; (case gqF => k_asm); (case gqa => rfl); (case gqb => rfl); (case gqv => exact @rfl _ (some _)); (case gqc => decide))
    | (refine' gv_cell ?gqN ?gqc ?gqm ?gqd ?gqa ?gqb ?gqe; (case gqa => rfl); (case gqb => rfl); (case gqN => k_asm); (case gqc => rfl); (case gqm => k_mem); (case gqd => k_asm); (case gqe => decide))
    | (refine' gv_glob ?gqF ?gqX ?gqT ?gqe ?gqa ?gqb ?gqc; (case gqF => k_asm); (case gqX => k_asm); (case gqT => k_asm); (case gqa => rfl); (case gqb => rfl); (case gqe => k_is); (case gqc => decide))
    | (refine' gv_add ?gqg ?gqh; (case gqg => k_extra "gx"); (case gqh => k_extra "gx"))
    | (refine' gv_sub ?gqg ?gqh; (case gqg => k_extra "gx"); (case gqh => k_extra "gx"))
    | (refine' gv_attr ?gqg ?gqk1 ?gqk2 ?gqk3 ?gqk4 ?gqk5 ?gqk6 ?gqk7 ?gqk8 ?gqk9 ?gqe; (case gqg => k_extra "gx"); (case gqk1 => k_asm); (case gqk2 => k_asm); (case gqk3 => k_inst); (case gqk4 => k_is); (case gqk5 => k_is); (case gqk6 => k_is); (case gqk7 => k_is); (case gqk8 => k_get); (case gqk9 => k_handed); (case gqe => with_unfolding_all rfl)))
  k_with "gl" => k_dflt (first
    | exact gl_nil
    | (refine' gl_cons ?gqg ?gqh ?gqe; (case gqe => rfl); (case gqg => k_extra "gx"); (case gqh => k_extra "gl")))
  k_with "callWith ref" => (k_dflt (refine' callWith_gv ?gqX ?gqF ?gqk ?gqg ?_ ?gqe ?gqp; (case gqX => k_asm); (case gqF => k_asm); (case gqk => k_is); (case gqe => rfl); (case gqp => rfl); (case gqg => k_extra "gl"); k_whole); (try dsimp only [List.nil_append, List.cons_append]))
  k_with "eval Call Name cons nil" => k_dflt (refine' call_gv ?gqX ?gqF ?gqf ?gqk ?gqg ?_ ?gqc ?gqe ?gqp; (case gqX => k_asm); (case gqF => k_asm); (case gqc => rfl); (case gqe => rfl); (case gqp => rfl); (case gqf => k_extra "gx"); (case gqk => k_is); (case gqg => k_extra "gl"); k_whole)
  k_with "eval Name" => k_dflt (refine' nameX_L ?gqF ?gqv ?_ ?gqa ?gqb ?gqc; (case gqF => k_asm); (case gqa => rfl); (case gqb => rfl); (case gqv => exact @rfl _ (some _)); (case gqc => decide); k_whole)
  k_with "spliced" => (k_dflt (refine' spliced_gv ?gqg ?_; (case gqg => k_extra "gl"); k_whole); (try dsimp only [List.nil_append, List.cons_append]))
  k_with "eval BinOp" => k_dflt (refine' eval_gv ?gqg ?_; (case gqg => k_extra "gx"); k_whole)
  k_with "eval Attribute Name" => k_dflt (refine' eval_gv ?gqg ?_; (case gqg => k_extra "gx"); k_whole)
  k_with "cmp" => k_dflt (first
    | ((with_reducible show wpAny _ _ (isTrue (Expr.Compare _ [CmpOp.Lt] [_] _) _ _) _ _ _); refine' ts_lt ?gqg ?gqh ?_ ?gqm; (case gqm => with_unfolding_all rfl); (case gqg => k_extra "gx"); (case gqh => k_extra "gx"); k_whole)
    | ((with_reducible show wpAny _ _ (isTrue (Expr.Compare _ [CmpOp.LtE] [_] _) _ _) _ _ _); refine' ts_le ?gqg ?gqh ?_ ?gqm; (case gqm => with_unfolding_all rfl); (case gqg => k_extra "gx"); (case gqh => k_extra "gx"); k_whole)
    | ((with_reducible show wpAny _ _ (isTrue (Expr.Compare _ [CmpOp.Gt] [_] _) _ _) _ _ _); refine' ts_gt ?gqg ?gqh ?_ ?gqm; (case gqm => with_unfolding_all rfl); (case gqg => k_extra "gx"); (case gqh => k_extra "gx"); k_whole)
    | ((with_reducible show wpAny _ _ (isTrue (Expr.Compare _ [CmpOp.GtE] [_] _) _ _) _ _ _); refine' ts_ge ?gqg ?gqh ?_ ?gqm; (case gqm => with_unfolding_all rfl); (case gqg => k_extra "gx"); (case gqh => k_extra "gx"); k_whole)
    | ((with_reducible show wpAny _ _ (isTrue (Expr.Compare _ [CmpOp.Eq] [_] _) _ _) _ _ _); refine' ts_eq ?gqg ?gqh ?_ ?gqm; (case gqm => with_unfolding_all rfl); (case gqg => k_extra "gx"); (case gqh => k_extra "gx"); k_whole)
    | ((with_reducible show wpAny _ _ (isTrue (Expr.Compare _ [CmpOp.NotEq] [_] _) _ _) _ _ _); refine' ts_ne ?gqg ?gqh ?_ ?gqm; (case gqm => with_unfolding_all rfl); (case gqg => k_extra "gx"); (case gqh => k_extra "gx"); k_whole))
  k_with "isTrue Compare Name" => k_extra "cmp"
  k_with "isTrue Compare Constant" => k_extra "cmp"
  k_with "isTrue Compare BinOp" => k_extra "cmp"
  k_with "isTrue Compare Attribute" => k_extra "cmp"
  k_with "enter" => (refine' code_any ?k1 ?k2 ?k3 ?k4 ?k5 ?kA ?kF ?kK ?k6 ?k7 ?k8 ?k9 ?kB ?_ ?c2 ?c3 ?c4 ?c5; (case kA => exact rfl); (case kF => exact rfl); (case kK => first | exact rfl | assumption); (case k1 => k_asm); (case k2 => k_asm); (case k3 => k_asm); (case k4 => k_asm); (case k5 => k_asm); (case k6 => k_is); (case k7 => k_is); (case k8 => k_room); (case k9 => first | exact BindsTo.of_eq rfl | exact binds_K (by k_in) rfl (by k_is) rfl rfl rfl); (case c5 => decide); (case kB => exact locs rfl); (case c2 => exact rfl); (case c3 => exact rfl); (case c4 => exact rfl); k_whole; intro g' L' h' tk' FG' F' N' B' X' T'; (try dsimp only); (try k_lift B'); (try k_fold))
  k_with "clsnew" => k_dflt (refine' call_cls ?k1 ?k2 ?k3 ?k4 ?k5 ?k6 ?_; (case k1 => k_asm); (case k2 => k_asm); (case k3 => k_asm); (case k4 => k_is); (case k5 => k_is); (case k6 => k_is); k_whole; intro x' d' h' F' N' l1 l2; (try k_lt l1); (try k_lt2 l2); (try k_sweep); k_extra "enter")
  revert X; k_fill; intro X
  k_with "call ref" => k_dflt (
    (with_reducible show wpAny _ _ (call (Value.ref 221) _) _ _ _)
    refine' use0_v (refused_ok _ _ _ _ _ _ _ _ ?hc) ?k1 ?k2 ?k3 ?k4 ?k5 ?kK ?kd ?ku ?_
    (case k1 => k_asm)
    (case k2 => k_asm)
    (case k3 => k_asm)
    (case k5 => k_asm)
    (case k4 => k_asm)
    (case hc => assumption)
    (case kK => first | exact rfl | assumption)
    (case kd => first | exact room1 (by assumption) (by decide) | exact room2 (by assumption) (by decide) | ktr_room)
    (case ku => first | exact room1 (by assumption) (by decide) | exact room2 (by assumption) (by decide) | ktr_units)
    intro h9 tk9 F9 N9
    (try dsimp only at N9)
    (try dsimp only)
    (try k_fold)
    skip)
  k_steps
  all_goals (try dsimp only)
  all_goals (refine hR _ _ _ ?_ (by k_asm) (by k_asm))
  all_goals rfl
section
variable {prog : Program} {w : World} {A : Around} {E : Value → Shared → Prop} {s : Shared} {env : Env} {h₀ : Heap} {target : Expr} {body : List Stmt} {Q : Flow → Shared → Prop}
theorem five {P : Value → Prop} {a b c d e : Value} (ha : P a) (hb : P b) (hc : P c) (hd : P d) (he : P e) : ∀ v ∈ [a, b, c, d, e], P v :=
  List.forall_mem_cons.mpr ⟨ha, List.forall_mem_cons.mpr ⟨hb, List.forall_mem_cons.mpr ⟨hc, List.forall_mem_cons.mpr ⟨hd, List.forall_mem_cons.mpr ⟨he, List.forall_mem_nil _⟩⟩⟩⟩⟩
/-- a loop over threes of ints in a list -/
theorem tups_items {I la l : Addr} {vs : List Value} {nn : Nat} {m₀ : Str → Option Value} {news : List (Addr × Obj)} (hm : m₀ (Str.ofString "script") = some (.ref l))
    (hla : (la, listOf vs.toArray nn) ∈ news) (hI : ∀ p ∈ news, p.1 < I)
    (ht : ∀ v ∈ vs, ∃ (D : Addr) (x y z : Int) (tx ty tz : Tok), v = .ref D ∧ (D, ({ cls := .type "tuple", data := .seq #[.int x tx, .int y ty, .int z tz] } : Obj)) ∈ news ∧ RefC x y z)
    (turn : ∀ (D : Addr) (x y z : Int) (tx ty tz : Tok) (h : Heap) (tk : Nat) (u : Str → Option Value) (own : List (Addr × Obj)) (R : Flow → Shared → Prop), RefC x y z → IsTup h D #[.int x tx, .int y ty, .int z tz] → Fr h₀ env.locals h (scM l u) → News h₀ env.locals h own →
      (∀ (h' : Heap) (tk' : Nat) (m' : Str → Option Value), m' (Str.ofString "script") = some (.ref l) → Fr h₀ env.locals h' m' → News h₀ env.locals h' own → R .next { s with heap := h', toks := tk' }) →
      wpAny (model prog w) A (assign target env (.ref D)) (fun _ s₂ => wpAny (model prog w) A (execs body env) R E s₂) E { s with heap := h, toks := tk })
    (done : ∀ (u : Str → Option Value) (h : Heap) (tk : Nat), Fr h₀ env.locals h (scM l u) → News h₀ env.locals h [] → Q .next { s with heap := h, toks := tk }) :
    ItemsRest prog w A E h₀ env target body Q s [(I, "list_iterator")] [(la, listOf vs.toArray nn)] (vs.map .val) m₀ news := by
  rw [scM_eq hm]
  refine items_state (keep := [(la, listOf vs.toArray nn)]) (σ := Str → Option Value) (fun u => scM l u) (fun _ => news) (fun _ _ => True) (fun _ => And.intro hla True.intro) ?_ ?_ m₀ trivial
  · rintro i v u h tk hv - F oI hcl N
    obtain ⟨D, x, y, z, tx, ty, tz, rfl, hD, hC⟩ := ht v (List.mem_of_getElem? hv)
    refine turn D x y z tx ty tz h tk u ((I, oI) :: news) _ hC (News.isTup N (.tail _ hD)) F N fun h' tk' m' hm' F' N' => ?_
    refine ⟨_, _, _, news, rfl, F', N', ?_, m', scM_eq hm', rfl, trivial⟩
    intro p hp q hq
    rw [List.mem_singleton.mp hq]
    exact Nat.ne_of_lt (hI p hp)
  · intro u h tk _ F N
    exact done u h tk F (fun p hp => by cases hp)
end
end
section
open PySem PySem.W PySem.Calls PyProof.Rows
set_option maxRecDepth 100000
set_option linter.unusedVariables false
set_option maxHeartbeats 40000000 in
theorem law_ok : PySem.Challenge.rw_pc0359_01.Holds := hd (by
  k_with_none
  w_top off
  k_with "om" => (first | k_extra "proj" | lia | omega (config := {}))
  k_with "pj" => (first | assumption | exact And.left (by assumption) | exact And.left (And.right (by assumption)) | exact And.left (And.right (And.right (by assumption))) | exact And.left (And.right (And.right (And.right (by assumption)))) | exact And.left (And.right (And.right (And.right (And.right (by assumption))))) | exact And.left (And.right (And.right (And.right (And.right (And.right (by assumption)))))) | exact And.left (And.right (And.right (And.right (And.right (And.right (And.right (by assumption))))))) | exact And.left (And.right (And.right (And.right (And.right (And.right (And.right (And.right (by assumption)))))))) | exact And.left (And.right (And.right (And.right (And.right (And.right (And.right (And.right (And.right (by assumption))))))))) | exact And.left (And.right (And.right (And.right (And.right (And.right (And.right (And.right (And.right (And.right (by assumption)))))))))) | exact And.left (And.right (And.right (And.right (And.right (And.right (And.right (And.right (And.right (And.right (And.right (by assumption))))))))))) | exact And.left (And.right (And.right (And.right (And.right (And.right (And.right (And.right (And.right (And.right (And.right (And.right (by assumption)))))))))))) | exact And.left (And.right (And.right (And.right (And.right (And.right (And.right (And.right (And.right (And.right (And.right (And.right (And.right (by assumption))))))))))))) | exact And.left (And.right (And.right (And.right (And.right (And.right (And.right (And.right (And.right (And.right (And.right (And.right (And.right (And.right (by assumption)))))))))))))) | exact And.right (by assumption) | exact And.right (And.right (by assumption)) | exact And.right (And.right (And.right (by assumption))) | exact And.right (And.right (And.right (And.right (by assumption)))) | exact And.right (And.right (And.right (And.right (And.right (by assumption))))) | exact And.right (And.right (And.right (And.right (And.right (And.right (by assumption)))))) | exact And.right (And.right (And.right (And.right (And.right (And.right (And.right (by assumption))))))) | exact And.right (And.right (And.right (And.right (And.right (And.right (And.right (And.right (by assumption)))))))) | exact And.right (And.right (And.right (And.right (And.right (And.right (And.right (And.right (And.right (by assumption))))))))) | exact And.right (And.right (And.right (And.right (And.right (And.right (And.right (And.right (And.right (And.right (by assumption)))))))))) | exact And.right (And.right (And.right (And.right (And.right (And.right (And.right (And.right (And.right (And.right (And.right (by assumption))))))))))) | exact And.right (And.right (And.right (And.right (And.right (And.right (And.right (And.right (And.right (And.right (And.right (And.right (by assumption)))))))))))) | exact And.right (And.right (And.right (And.right (And.right (And.right (And.right (And.right (And.right (And.right (And.right (And.right (And.right (by assumption))))))))))))))
  k_with "proj" => (first
    | (with_reducible assumption)
    | ((with_reducible show @Ne Nat _ _); (with_reducible first
      | (refine Nat.ne_of_gt ?_; k_extra "pj")
      | (refine Nat.ne_of_lt ?_; k_extra "pj")
      | (refine Nat.ne_of_gt (Nat.lt_trans ?_ (by assumption)); k_extra "pj")
      | (refine Nat.ne_of_lt (Nat.lt_trans ?_ (by assumption)); k_extra "pj")
      | k_extra "pj"
      | (refine Ne.symm ?_; k_extra "pj")
      | (first | exact And.left (And.left (by assumption)) | exact And.left (And.right (And.left (by assumption))) | exact And.right (And.right (And.left (by assumption))) | exact And.left (And.left (And.right (by assumption))) | exact And.left (And.right (And.left (And.right (by assumption)))) | exact And.right (And.right (And.left (And.right (by assumption)))) | exact And.left (And.left (And.right (And.right (by assumption)))) | exact And.left (And.right (And.left (And.right (And.right (by assumption))))) | exact And.right (And.right (And.left (And.right (And.right (by assumption))))) | exact And.left (And.left (And.right (And.right (And.right (by assumption))))) | exact And.left (And.right (And.left (And.right (And.right (And.right (by assumption)))))) | exact And.right (And.right (And.left (And.right (And.right (And.right (by assumption)))))) | exact And.left (And.left (And.right (And.right (And.right (And.right (by assumption)))))) | exact And.left (And.right (And.left (And.right (And.right (And.right (And.right (by assumption))))))) | exact And.right (And.right (And.left (And.right (And.right (And.right (And.right (by assumption))))))) | exact And.left (And.left (And.right (And.right (And.right (And.right (And.right (by assumption))))))) | exact And.left (And.right (And.left (And.right (And.right (And.right (And.right (And.right (by assumption)))))))) | exact And.right (And.right (And.left (And.right (And.right (And.right (And.right (And.right (by assumption)))))))))
      | (refine Ne.symm ?_; (first | exact And.left (And.left (by assumption)) | exact And.left (And.right (And.left (by assumption))) | exact And.right (And.right (And.left (by assumption))) | exact And.left (And.left (And.right (by assumption))) | exact And.left (And.right (And.left (And.right (by assumption)))) | exact And.right (And.right (And.left (And.right (by assumption)))) | exact And.left (And.left (And.right (And.right (by assumption)))) | exact And.left (And.right (And.left (And.right (And.right (by assumption))))) | exact And.right (And.right (And.left (And.right (And.right (by assumption))))) | exact And.left (And.left (And.right (And.right (And.right (by assumption))))) | exact And.left (And.right (And.left (And.right (And.right (And.right (by assumption)))))) | exact And.right (And.right (And.left (And.right (And.right (And.right (by assumption)))))) | exact And.left (And.left (And.right (And.right (And.right (And.right (by assumption)))))) | exact And.left (And.right (And.left (And.right (And.right (And.right (And.right (by assumption))))))) | exact And.right (And.right (And.left (And.right (And.right (And.right (And.right (by assumption))))))) | exact And.left (And.left (And.right (And.right (And.right (And.right (And.right (by assumption))))))) | exact And.left (And.right (And.left (And.right (And.right (And.right (And.right (And.right (by assumption)))))))) | exact And.right (And.right (And.left (And.right (And.right (And.right (And.right (And.right (by assumption))))))))))))
    | ((with_reducible show @LT.lt Nat _ _ _); (with_reducible k_extra "pj"))
    | ((with_reducible show @LE.le Nat _ _ _); (with_reducible first | exact Nat.le_refl _ | (refine Nat.le_of_lt ?_; k_extra "pj")))
    | ((with_reducible refine And.intro ?_ ?_) <;> omega)
    | (with_reducible (first | assumption | exact And.left (by assumption) | exact And.left (And.right (by assumption)) | exact And.left (And.right (And.right (by assumption))) | exact And.right (by assumption) | exact And.right (And.right (by assumption)))))
  k_with "updF" => k_dflt (rename Ap _ _ => hAp9; first | exact upd0 hAp9 | exact upd1 hAp9 | exact upd2 hAp9 | exact upd3 hAp9 | exact upd4 hAp9 | exact upd5 hAp9 | exact upd6 hAp9 | exact upd7 hAp9 | exact upd8 hAp9 | exact upd9 hAp9 | exact upd10 hAp9 | exact upd11 hAp9 | exact upd12 hAp9 | exact upd13 hAp9 | exact upd14 hAp9 | exact upd15 hAp9)
  k_with "upd" => k_dflt (rename Ap _ _ => hAp9; first | exact upe0 hAp9 | exact upe1 hAp9 | exact upe2 hAp9 | exact upe3 hAp9 | exact upe4 hAp9 | exact upe5 hAp9 | exact upe6 hAp9 | exact upe7 hAp9 | exact upe8 hAp9 | exact upe9 hAp9 | exact upe10 hAp9 | exact upe11 hAp9 | exact upe12 hAp9 | exact upe13 hAp9 | exact upe14 hAp9 | exact upe15 hAp9)
  k_with "lt" => ((rename (∀ p ∈ _, _ < _) => hL9); (try (rename Ap _ _ => hAp9; have hRaw := hL9; have hAp := Ap.push hAp9 hL9 rfl)); replace hL9 := allLt_of hL9; dsimp only [AllLt] at hL9)
  k_with "lt2" => ((with_reducible rename @LT.lt Nat _ _ _ => hL8); replace hL8 := ltN hL8; (try (rename Ap _ _ => hAp9; rename (∀ p ∈ _, _ < _) => hRaw9; have hAp := Ap.push2 hAp9 hRaw9 rfl hL8)))
  k_with "all" => (first | exact allLt_ne (by assumption) (by omega) | exact lt_neG (by assumption) (by omega))
  k_with "allmem" => (first | (with_reducible exact List.forall_mem_nil _) | ((with_reducible refine List.forall_mem_cons.mpr (And.intro ?_ ?_)); (focus k_mem); walk_at "allmem") | (intro p hp; (repeat (first | exact hp | apply List.mem_cons_of_mem)); done))
  k_with "storeName int" => k_dflt (refine' store_int ?gqF ?gqN ?_ ?gqa ?gqb; (case gqF => k_asm); (case gqN => k_asm); (case gqa => rfl); (case gqb => rfl); k_whole; intro t' h' tk' F' N'; (try k_sweep))
  k_with "storeName" => k_dflt (refine' store_any ?gqF ?gqN ?_ ?gqa ?gqb; (case gqF => k_asm); (case gqN => k_asm); (case gqa => rfl); (case gqb => rfl); k_whole; intro h' tk' F' N'; (try k_sweep))
  k_with "newTuple" => (k_dflt (first
    | (refine' tup_2 ?gqF ?gqN ?_; (case gqF => k_asm); (case gqN => k_asm); k_whole; intro t1' t2' D' h' tk' F' N' l1)
    | (refine' tup_3 ?gqF ?gqN ?_; (case gqF => k_asm); (case gqN => k_asm); k_whole; intro t1' t2' t3' D' h' tk' F' N' l1)
    | (refine' tup_any ?gqF ?gqN ?_ ?gqz; (case gqF => k_asm); (case gqN => k_asm); (case gqz => exact Nat.le_of_ble_eq_true rfl); k_whole; intro D' h' tk' F' N' l1)); (try k_lt l1); (try k_sweep))
  k_with "newList" => (k_dflt (first
    | (refine' list_4 ?gqF ?gqN ?_; (case gqF => k_asm); (case gqN => k_asm); k_whole; intro t1' t2' t3' t4' D' h' tk' F' N' l1)
    | (refine' list_1 ?gqF ?gqN ?_; (case gqF => k_asm); (case gqN => k_asm); k_whole; intro t1' D' h' tk' F' N' l1)
    | (refine' list_any ?gqF ?gqN ?_ ?gqz; (case gqF => k_asm); (case gqN => k_asm); (case gqz => exact Nat.le_of_ble_eq_true rfl); k_whole; intro D' h' tk' F' N' l1)); (try k_lt l1); (try k_sweep))
  k_with "exec Assign cons Call" => k_fold
  k_with "exec Assign cons Tuple" => k_fold
  k_with "exec If BoolOp cons nil" => k_fold
  k_with "exec If UnaryOp cons nil" => k_fold
  k_with "exec If Compare cons nil" => k_fold
  k_with "exec Assign cons BinOp" => k_fold
  k_with "exec Expr Call" => k_fold
  k_with "exec Assign cons Compare" => k_fold
  k_with "exec Assign cons Subscript" => k_fold
  k_with "exec If Name cons nil" => k_fold
  k_with "gx" => k_dflt (first
    | exact gv_int
    | (refine' gv_name ?gqF ?gqv ?gqa ?gqb ?gqc; (case gqF => k_asm); (case gqa => rfl); (case gqb => rfl); (case gqv => exact @rfl _ (some _)); (case gqc => decide))
    | (refine' gv_cell ?gqN ?gqc ?gqm ?gqd ?gqa ?gqb ?gqe; (case gqa => rfl); (case gqb => rfl); (case gqN => k_asm); (case gqc => rfl); (case gqm => k_mem); (case gqd => k_asm); (case gqe => decide))
    | (refine' gv_glob ?gqF ?gqX ?gqT ?gqe ?gqa ?gqb ?gqc; (case gqF => k_asm); (case gqX => k_asm); (case gqT => k_asm); (case gqa => rfl); (case gqb => rfl); (case gqe => k_is); (case gqc => decide))
    | (refine' gv_add ?gqg ?gqh; (case gqg => k_extra "gx"); (case gqh => k_extra "gx"))
    | (refine' gv_sub ?gqg ?gqh; (case gqg => k_extra "gx"); (case gqh => k_extra "gx"))
    | (refine' gv_attr ?gqg ?gqk1 ?gqk2 ?gqk3 ?gqk4 ?gqk5 ?gqk6 ?gqk7 ?gqk8 ?gqk9 ?gqe; (case gqg => k_extra "gx"); (case gqk1 => k_asm); (case gqk2 => k_asm); (case gqk3 => k_inst); (case gqk4 => k_is); (case gqk5 => k_is); (case gqk6 => k_is); (case gqk7 => k_is); (case gqk8 => k_get); (case gqk9 => k_handed); (case gqe => with_unfolding_all rfl)))
  k_with "gl" => k_dflt (first
    | exact gl_nil
    | (refine' gl_cons ?gqg ?gqh ?gqe; (case gqe => rfl); (case gqg => k_extra "gx"); (case gqh => k_extra "gl")))
  k_with "callWith ref" => (k_dflt (refine' callWith_gv ?gqX ?gqF ?gqk ?gqg ?_ ?gqe ?gqp; (case gqX => k_asm); (case gqF => k_asm); (case gqk => k_is); (case gqe => rfl); (case gqp => rfl); (case gqg => k_extra "gl"); k_whole); (try dsimp only [List.nil_append, List.cons_append]))
  k_with "eval Call Name cons nil" => k_dflt (refine' call_gv ?gqX ?gqF ?gqf ?gqk ?gqg ?_ ?gqc ?gqe ?gqp; (case gqX => k_asm); (case gqF => k_asm); (case gqc => rfl); (case gqe => rfl); (case gqp => rfl); (case gqf => k_extra "gx"); (case gqk => k_is); (case gqg => k_extra "gl"); k_whole)
  k_with "eval Name" => k_dflt (refine' nameX_L ?gqF ?gqv ?_ ?gqa ?gqb ?gqc; (case gqF => k_asm); (case gqa => rfl); (case gqb => rfl); (case gqv => exact @rfl _ (some _)); (case gqc => decide); k_whole)
  k_with "spliced" => (k_dflt (refine' spliced_gv ?gqg ?_; (case gqg => k_extra "gl"); k_whole); (try dsimp only [List.nil_append, List.cons_append]))
  k_with "eval BinOp" => k_dflt (refine' eval_gv ?gqg ?_; (case gqg => k_extra "gx"); k_whole)
  k_with "eval Attribute Name" => k_dflt (refine' eval_gv ?gqg ?_; (case gqg => k_extra "gx"); k_whole)
  k_with "cmp" => k_dflt (first
    | ((with_reducible show wpAny _ _ (isTrue (Expr.Compare _ [CmpOp.Lt] [_] _) _ _) _ _ _); refine' ts_lt ?gqg ?gqh ?_ ?gqm; (case gqm => with_unfolding_all rfl); (case gqg => k_extra "gx"); (case gqh => k_extra "gx"); k_whole)
    | ((with_reducible show wpAny _ _ (isTrue (Expr.Compare _ [CmpOp.LtE] [_] _) _ _) _ _ _); refine' ts_le ?gqg ?gqh ?_ ?gqm; (case gqm => with_unfolding_all rfl); (case gqg => k_extra "gx"); (case gqh => k_extra "gx"); k_whole)
    | ((with_reducible show wpAny _ _ (isTrue (Expr.Compare _ [CmpOp.Gt] [_] _) _ _) _ _ _); refine' ts_gt ?gqg ?gqh ?_ ?gqm; (case gqm => with_unfolding_all rfl); (case gqg => k_extra "gx"); (case gqh => k_extra "gx"); k_whole)
    | ((with_reducible show wpAny _ _ (isTrue (Expr.Compare _ [CmpOp.GtE] [_] _) _ _) _ _ _); refine' ts_ge ?gqg ?gqh ?_ ?gqm; (case gqm => with_unfolding_all rfl); (case gqg => k_extra "gx"); (case gqh => k_extra "gx"); k_whole)
    | ((with_reducible show wpAny _ _ (isTrue (Expr.Compare _ [CmpOp.Eq] [_] _) _ _) _ _ _); refine' ts_eq ?gqg ?gqh ?_ ?gqm; (case gqm => with_unfolding_all rfl); (case gqg => k_extra "gx"); (case gqh => k_extra "gx"); k_whole)
    | ((with_reducible show wpAny _ _ (isTrue (Expr.Compare _ [CmpOp.NotEq] [_] _) _ _) _ _ _); refine' ts_ne ?gqg ?gqh ?_ ?gqm; (case gqm => with_unfolding_all rfl); (case gqg => k_extra "gx"); (case gqh => k_extra "gx"); k_whole))
  k_with "isTrue Compare Name" => k_extra "cmp"
  k_with "isTrue Compare Constant" => k_extra "cmp"
  k_with "isTrue Compare BinOp" => k_extra "cmp"
  k_with "isTrue Compare Attribute" => k_extra "cmp"
  k_with "enter" => (refine' code_any ?k1 ?k2 ?k3 ?k4 ?k5 ?kA ?kF ?kK ?k6 ?k7 ?k8 ?k9 ?kB ?_ ?c2 ?c3 ?c4 ?c5; (case kA => exact rfl); (case kF => exact rfl); (case kK => first | exact rfl | assumption); (case k1 => k_asm); (case k2 => k_asm); (case k3 => k_asm); (case k4 => k_asm); (case k5 => k_asm); (case k6 => k_is); (case k7 => k_is); (case k8 => k_room); (case k9 => first | exact BindsTo.of_eq rfl | exact binds_K (by k_in) rfl (by k_is) rfl rfl rfl); (case c5 => decide); (case kB => exact locs rfl); (case c2 => exact rfl); (case c3 => exact rfl); (case c4 => exact rfl); k_whole; intro g' L' h' tk' FG' F' N' B' X' T'; (try dsimp only); (try k_lift B'); (try k_fold))
  k_with "clsnew" => k_dflt (refine' call_cls ?k1 ?k2 ?k3 ?k4 ?k5 ?k6 ?_; (case k1 => k_asm); (case k2 => k_asm); (case k3 => k_asm); (case k4 => k_is); (case k5 => k_is); (case k6 => k_is); k_whole; intro x' d' h' F' N' l1 l2; (try k_lt l1); (try k_lt2 l2); (try k_sweep); k_extra "enter")
  k_go0
  all_goals (try k_fold)
  k_with "exec For Name Call cons nil" => (k_here; (rename Fr _ _ _ _ => lF'); (with_unfolding_all refine' For_invVF lF' ?k1 ?k2 ?_; (case k1 => exact rfl); (case k2 => exact rfl); k_whole))
  k_with "call ref" => k_dflt (
    (with_reducible show wpAny _ _ (call (Value.ref 110) _) _ _ _)
    refine' use_iv (share_cv (v := 0) (by decide) ?hc ?hdc ?hn ?h0 ?h1 ?h2 ?h3 ?h4 ?h5 ?h6) ?k1 ?k2 ?k3 ?k4 ?k5 ?kK ?kd ?ku ?_
    (case k1 => k_asm)
    (case k2 => k_asm)
    (case k3 => k_asm)
    (case k5 => k_asm)
    (case k4 => k_asm)
    (case hc => k_mem)
    (case hdc => k_mem)
    (case hn => k_ne)
    (case h0 => decide)
    (case h1 => decide)
    (case h2 => decide)
    (case h3 => decide)
    (case h4 => decide)
    (case h5 => decide)
    (case h6 => decide)
    (case kK => first | exact rfl | assumption)
    (case kd => first | exact room1 (by assumption) (by decide) | exact room2 (by assumption) (by decide) | ktr_room)
    (case ku => first | exact room1 (by assumption) (by decide) | exact room2 (by assumption) (by decide) | ktr_units)
    intro t9 h9 tk9 F9 N9
    (try dsimp only at N9)
    (try dsimp only)
    (try k_fold)
    skip)
  k_with "call ref" => k_dflt (
    (with_reducible show wpAny _ _ (call (Value.ref 110) _) _ _ _)
    refine' use_iv (share_cv (v := 12) (by decide) ?hc ?hdc ?hn ?h0 ?h1 ?h2 ?h3 ?h4 ?h5 ?h6) ?k1 ?k2 ?k3 ?k4 ?k5 ?kK ?kd ?ku ?_
    (case k1 => k_asm)
    (case k2 => k_asm)
    (case k3 => k_asm)
    (case k5 => k_asm)
    (case k4 => k_asm)
    (case hc => k_mem)
    (case hdc => k_mem)
    (case hn => k_ne)
    (case h0 => decide)
    (case h1 => decide)
    (case h2 => decide)
    (case h3 => decide)
    (case h4 => decide)
    (case h5 => decide)
    (case h6 => decide)
    (case kK => first | exact rfl | assumption)
    (case kd => first | exact room1 (by assumption) (by decide) | exact room2 (by assumption) (by decide) | ktr_room)
    (case ku => first | exact room1 (by assumption) (by decide) | exact room2 (by assumption) (by decide) | ktr_units)
    intro t9 h9 tk9 F9 N9
    (try dsimp only at N9)
    (try dsimp only)
    (try k_fold)
    skip)
  k_with "call ref" => k_dflt (
    (with_reducible show wpAny _ _ (call (Value.ref 110) _) _ _ _)
    refine' use_iv (share_cv (v := 37) (by decide) ?hc ?hdc ?hn ?h0 ?h1 ?h2 ?h3 ?h4 ?h5 ?h6) ?k1 ?k2 ?k3 ?k4 ?k5 ?kK ?kd ?ku ?_
    (case k1 => k_asm)
    (case k2 => k_asm)
    (case k3 => k_asm)
    (case k5 => k_asm)
    (case k4 => k_asm)
    (case hc => k_mem)
    (case hdc => k_mem)
    (case hn => k_ne)
    (case h0 => decide)
    (case h1 => decide)
    (case h2 => decide)
    (case h3 => decide)
    (case h4 => decide)
    (case h5 => decide)
    (case h6 => decide)
    (case kK => first | exact rfl | assumption)
    (case kd => first | exact room1 (by assumption) (by decide) | exact room2 (by assumption) (by decide) | ktr_room)
    (case ku => first | exact room1 (by assumption) (by decide) | exact room2 (by assumption) (by decide) | ktr_units)
    intro t9 h9 tk9 F9 N9
    (try dsimp only at N9)
    (try dsimp only)
    (try k_fold)
    skip)
  k_with "call ref" => k_dflt (
    (with_reducible show wpAny _ _ (call (Value.ref 110) _) _ _ _)
    refine' use_iv (share_cv (v := 10000) (by decide) ?hc ?hdc ?hn ?h0 ?h1 ?h2 ?h3 ?h4 ?h5 ?h6) ?k1 ?k2 ?k3 ?k4 ?k5 ?kK ?kd ?ku ?_
    (case k1 => k_asm)
    (case k2 => k_asm)
    (case k3 => k_asm)
    (case k5 => k_asm)
    (case k4 => k_asm)
    (case hc => k_mem)
    (case hdc => k_mem)
    (case hn => k_ne)
    (case h0 => decide)
    (case h1 => decide)
    (case h2 => decide)
    (case h3 => decide)
    (case h4 => decide)
    (case h5 => decide)
    (case h6 => decide)
    (case kK => first | exact rfl | assumption)
    (case kd => first | exact room1 (by assumption) (by decide) | exact room2 (by assumption) (by decide) | ktr_room)
    (case ku => first | exact room1 (by assumption) (by decide) | exact room2 (by assumption) (by decide) | ktr_units)
    intro t9 h9 tk9 F9 N9
    (try dsimp only at N9)
    (try dsimp only)
    (try k_fold)
    skip)
  k_with "pyIter ref" => k_dflt (
    (with_reducible show wpAny _ _ (pyIter (Value.ref _)) (fun it s₂ => LoopAtV _ _ _ _ _ _ _ _ _ it s₂) _ _)
    refine law_loop (by rfl) (by assumption) (by (split <;> (try split) <;> omega)) (by (split <;> (try split) <;> omega)) (by k_asm) (by k_asm) (by rfl) ?_ ?_
    focus
      intro k t h tk own u R hk0 hk1 F1 N1 hR
      refine turn_ok _ _ rfl _ rfl (by k_asm) F1 (by k_asm) N1 (by k_asm) (by ktr_room) (by ktr_units) (by assumption) (by assumption) (by omega) (by assumption) hk0 hk1 hR
    intro h tk u F1 N1
    (try dsimp only at F1 N1))
  k_with "pyIter ref" => k_dflt (
    (with_reducible show wpAny _ _ (pyIter (Value.ref _)) (fun it s₂ => TurnsAt _ _ _ _ _ _ _ _ _ it s₂) _ _)
    refine iter_listTurns (by rfl) (by k_asm) (by k_asm) (by k_mem) (by rfl) (by rfl) ?_
    intro I' lI'
    refine tups_items (by rfl) (by k_mem) lI' (five ⟨_, _, _, _, _, _, _, rfl, by k_mem, by (unfold RefC; decide)⟩ ⟨_, _, _, _, _, _, _, rfl, by k_mem, by (unfold RefC; decide)⟩ ⟨_, _, _, _, _, _, _, rfl, by k_mem, by (unfold RefC; decide)⟩ ⟨_, _, _, _, _, _, _, rfl, by k_mem, by (unfold RefC; decide)⟩ ⟨_, _, _, _, _, _, _, rfl, by k_mem, by (unfold RefC; decide)⟩) ?_ ?_
    focus
      intro D x y z tx ty tz h tk u own R hC hT F1 N1 hR
      exact reft_ok _ _ rfl _ _ rfl (by k_asm) (by k_asm) (by k_asm) (by ktr_room) (by ktr_units) hC hT F1 N1 hR
    intro u h tk F1 N1
    (try dsimp only at F1 N1))
  k_with "call ref" => k_dflt (
    (with_reducible show wpAny _ _ (call (Value.ref 120) _) _ _ _)
    refine' curve_new ?k1 ?k2 ?k3 ?k4 ?k5 ?kK ?h0 ?h1 ?h2 ?h3 ?kd ?ku ?_
    (case k1 => k_asm)
    (case k2 => k_asm)
    (case k3 => k_asm)
    (case k5 => k_asm)
    (case k4 => k_asm)
    (case h0 => omega)
    (case h1 => omega)
    (case h2 => omega)
    (case h3 => omega)
    (case kK => first | exact rfl | assumption)
    (case kd => first | exact room1 (by assumption) (by decide) | exact room2 (by assumption) (by decide) | ktr_room)
    (case ku => first | exact room1 (by assumption) (by decide) | exact room2 (by assumption) (by decide) | ktr_units)
    intro x9 d9 k19 k29 k39 t19 t29 t39 h9 tk9 l19 l29 F9 N9
    (try k_lt l19)
    (try k_lt2 l29)
    (try dsimp only at N9)
    (try dsimp only)
    (try k_fold)
    skip)
  k_steps)
end
end Mine
theorem PySem.Challenge.cw_pc0359_01_holds : PySem.Challenge.rw_pc0359_01.Holds := by
  exact Mine.law_ok
