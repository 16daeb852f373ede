import PyProof.Rows.All
import Wide.All
import OpenK.AllK
import Wide.FinOn
import PySem.Challenge.RW_xm0943_01
set_option Elab.async false
set_option rowWalk.seconds 1500
section
open PySem PySem.W PyProof.Rows
namespace Mine
set_option maxRecDepth 100000 in
set_option maxHeartbeats 8000000 in
open_top hd for PySem.Challenge.rw_xm0943_01

end Mine
end
section
open PySem
namespace Mine

/-- how two texts stand, on their signs -/
def ordL : List Nat → List Nat → Int
  | [], [] => 0
  | [], _ :: _ => -1
  | _ :: _, [] => 1
  | a :: x, b :: y => if a = b then ordL x y else if a < b then -1 else 1
def ordS (x y : Str) : Int := ordL x.cps.toList y.cps.toList
def Less (x y : Str) : Prop := ordS x y < 0
def GeS (x y : Str) : Prop := 0 ≤ ordS x y
def LeS (x y : Str) : Prop := ordS x y ≤ 0
def Agr (x y : Str) (n : Nat) : Prop := ∀ i, i < n → x.cps.getD i 0 = y.cps.getD i 0

theorem ordL_at : ∀ (X Y : List Nat) (k : Nat), k < X.length → k < Y.length → (∀ i, i < k → X.getD i 0 = Y.getD i 0) → X.getD k 0 ≠ Y.getD k 0 → ordL X Y = if X.getD k 0 < Y.getD k 0 then -1 else 1
  | [], _, _, h, _, _, _ => absurd h (Nat.not_lt_zero _)
  | _ :: _, [], _, _, h, _, _ => absurd h (Nat.not_lt_zero _)
  | a :: X, b :: Y, 0, _, _, _, hn => by
    simp only [List.getD_cons_zero] at hn ⊢
    simp only [ordL, if_neg hn]
  | a :: X, b :: Y, k + 1, h1, h2, hA, hn => by
    have h0 := hA 0 (Nat.succ_pos _)
    simp only [List.getD_cons_zero] at h0
    simp only [List.getD_cons_succ] at hn ⊢
    simp only [ordL, if_pos h0]
    exact ordL_at X Y k (Nat.lt_of_succ_lt_succ h1) (Nat.lt_of_succ_lt_succ h2) (fun i hi => by simpa using hA (i + 1) (Nat.succ_lt_succ hi)) hn
theorem ordL_end : ∀ (X Y : List Nat), (∀ i, i < X.length → i < Y.length → X.getD i 0 = Y.getD i 0) → ordL X Y = if X.length = Y.length then 0 else if X.length < Y.length then -1 else 1
  | [], [], _ => rfl
  | [], _ :: Y, _ => by simp [ordL]
  | _ :: X, [], _ => by simp [ordL]
  | a :: X, b :: Y, hA => by
    have h0 := hA 0 (Nat.succ_pos _) (Nat.succ_pos _)
    simp only [List.getD_cons_zero] at h0
    simp only [ordL, if_pos h0]
    rw [ordL_end X Y fun i h1 h2 => by simpa using hA (i + 1) (Nat.succ_lt_succ h1) (Nat.succ_lt_succ h2)]
    simp

theorem agr_nil (x y : Str) : Agr x y ([] : List Int).length := fun _ h => absurd h (Nat.not_lt_zero _)
theorem cps_getD (x : Str) (i : Nat) : x.cps.getD i 0 = x.cps.toList.getD i 0 := by
  rw [Array.getD_eq_getD_getElem?, List.getD_eq_getElem?_getD, Array.getElem?_toList]
theorem cps_len (x : Str) : x.cps.toList.length = x.length := by simp [Str.length]
theorem item_at {x : Str} {i : Int} {n : Nat} (hi : i = 0 + (n : Int)) (h : n < x.length) : PySem.Txt.item x i = ⟨#[x.cps.getD n 0]⟩ := by
  subst hi
  rw [PySem.W.item_meets ⟨by omega, by omega⟩]
  simp
theorem agr_step {x y : Str} {pre : List Int} {i : Int} (hi : i = 0 + (pre.length : Int)) (hl : pre.length < ((if (y.length : Int) < (x.length : Int) then (y.length : Int) else (x.length : Int)) - 0).toNat) (A : Agr x y pre.length)
    (e : (PySem.Txt.item x i != PySem.Txt.item y i) = false) : Agr x y (pre ++ [i]).length := by
  have hx : pre.length < x.length := by split at hl <;> omega
  have hy : pre.length < y.length := by split at hl <;> omega
  rw [item_at hi hx, item_at hi hy] at e
  intro j hj
  rw [List.length_append, List.length_singleton] at hj
  rcases Nat.lt_succ_iff_lt_or_eq.mp hj with h | h
  · exact A j h
  · subst h
    simpa using e
theorem ord_lt {x y : Str} {n : Nat} {i : Int} (hi : i = 0 + (n : Int)) (hl : n < ((if (y.length : Int) < (x.length : Int) then (y.length : Int) else (x.length : Int)) - 0).toNat) (A : Agr x y n)
    (e : (PySem.Txt.item x i != PySem.Txt.item y i) = true) : ordS x y = if (((PySem.Txt.item x i).cps.getD 0 0 : Nat) : Int) < (((PySem.Txt.item y i).cps.getD 0 0 : Nat) : Int) then -1 else 1 := by
  have hx : n < x.length := by split at hl <;> omega
  have hy : n < y.length := by split at hl <;> omega
  rw [item_at hi hx, item_at hi hy] at e ⊢
  have hne : x.cps.getD n 0 ≠ y.cps.getD n 0 := fun q => by rw [q] at e; simp at e
  unfold ordS
  rw [ordL_at _ _ n (by rw [cps_len]; exact hx) (by rw [cps_len]; exact hy) (fun j hj => by rw [← cps_getD, ← cps_getD]; exact A j hj) (by rw [← cps_getD, ← cps_getD]; exact hne)]
  rw [← cps_getD, ← cps_getD]
  simp
theorem ord_end {x y : Str} {n : Nat} (hn : n = ((if (y.length : Int) < (x.length : Int) then (y.length : Int) else (x.length : Int)) - 0).toNat) (A : Agr x y n) : ordS x y = if x.length = y.length then 0 else if x.length < y.length then -1 else 1 := by
  unfold ordS
  rw [ordL_end, cps_len, cps_len]
  intro i h1 h2
  rw [cps_len] at h1 h2
  rw [← cps_getD, ← cps_getD]
  refine A i ?_
  rw [hn]
  split <;> omega
end Mine
end
section
open PySem PySem.W PyProof.Rows
namespace Mine

set_option maxRecDepth 100000 in
set_option maxHeartbeats 4000000 in
theorem ord_call : ∀ {w : World} {mean : ExcName → Option Value} {mg mb : Str → Option Value} {dp un : Nat} {gd : Option (List Code)} {cn : Str} {cs : Scope} {a : Addr} {ccd : Value} {cl : List (Str × Addr)} {outer : List Env} {A₀ : Around} {base h₀ : Heap} {L : Addr} {m : Str → Option Value} {news : List (Addr × Obj)} {s : Shared} {Q E : Value → Shared → Prop}
    {x y : Str} {t u : Tok}
    (_ : Below A₀ base outer h₀) (_ : Fr h₀ L s.heap m) (_ : (hd.heap_39 w.params).In h₀) (_ : News h₀ L s.heap news) (_ : Top hd.view_39 (looseW hd.view_39 [Str.ofString "SnobolError"]) mean mg mb h₀) (_ : cs.kind = .function)
    (_ : x.length < 2 ^ 20) (_ : y.length < 2 ^ 20)
    (_ : dp + 1 < recursionLimit) (_ : un + 8 < cLine)
    (_ : ∀ (t : Tok) (h' : Heap) (tk' : Nat), Fr h₀ L h' m → News h₀ L h' news → Q (.int (ordS x y) t) { s with heap := h', toks := tk' }),
    wpAny (model PySem.Challenge.rw_xm0943_01.row.prog w) (ktrTop dp un gd cn cs L a ccd cl outer) (call (.ref 86) [.str x t, .str y u]) Q E s := by
  k_fill
  intro w mean mg mb dp un gd cn cs a ccd cl outer A₀ base h₀ L m news s Q E x y t u B F X N T hk hx hy hd hu hret
  refine wpAny_call ?_
  k_dflt cell_enter
  k_with "pyIter ref" => k_search (fun pre => Agr x y pre.length)
  k_with "state" => first | exact agr_nil _ _ | exact agr_step (by assumption) (by assumption) (by assumption) (by assumption)
  k_steps
  all_goals (refine cb_retI (Q := Q) hret ?_ (by assumption) (by first | assumption | exact cb_drop (by assumption) (fun p hp => List.mem_append_left _ hp)))
  all_goals first
    | exact (by rw [ord_lt kEq kLt kInv (by assumption), if_pos (by assumption)])
    | exact (by rw [ord_lt kEq kLt kInv (by assumption), if_neg (by assumption)])
    | (rw [ord_end (by rw [rangeKs_length]) kInv]; first | (rw [if_pos (by omega)]; done) | (rw [if_neg (by omega), if_pos (by omega)]; done) | (rw [if_neg (by omega), if_neg (by omega)]; done))
end Mine
end
section
open PySem PySem.W PyProof.Rows
namespace Mine
local macro_rules | `(tactic| k_room) => `(tactic| ktr_room)
local macro_rules | `(tactic| k_units) => `(tactic| ktr_units)
local macro_rules | `(tactic| walk_at "call ref") => `(tactic| (k_here; (with_reducible show wpAny _ _ (call (Value.ref 86) [Value.str _ _, Value.str _ _]) _ _ _); k_dflt ((with_unfolding_all refine' ord_call ?k1 ?k2 ?k3 ?k4 ?k5 ?k6 ?k7 ?k8 ?k9 ?k10 ?_); (case k1 => k_asm); (case k2 => k_asm); (case k3 => k_asm); (case k4 => k_asm); (case k5 => k_asm); (case k6 => first | exact rfl | assumption); (case k7 => first | assumption | omega); (case k8 => first | assumption | omega); (case k9 => ktr_room); (case k10 => ktr_units); intro t' h' tk' F' N'; (try dsimp only); (try k_fold))))
theorem eq_lt_lt : (Str.ofString "LT" == Str.ofString "LT") = true := by decide
theorem eq_ge_lt : (Str.ofString "GE" == Str.ofString "LT") = false := by decide
theorem eq_le_gt : (Str.ofString "LE" == Str.ofString "GT") = false := by decide

set_option maxRecDepth 100000 in
set_option maxHeartbeats 4000000 in
theorem llt_call : ∀ {w : World} {mean : ExcName → Option Value} {mg mb : Str → Option Value} {dp un : Nat} {gd : Option (List Code)} {cn : Str} {cs : Scope} {a : Addr} {ccd : Value} {cl : List (Str × Addr)} {outer : List Env} {A₀ : Around} {base h₀ : Heap} {L : Addr} {m : Str → Option Value} {news : List (Addr × Obj)} {s : Shared} {Q E : Value → Shared → Prop}
    {x y : Str} {t u : Tok} {wv : Value} {l : Addr} {z : Nat}
    (_ : Below A₀ base outer h₀) (_ : Fr h₀ L s.heap m) (_ : (hd.heap_39 w.params).In h₀) (_ : News h₀ L s.heap ((l, ({ cls := .type "list", data := .seq [.str x t, .str y u].toArray z } : Obj)) :: news)) (_ : Top hd.view_39 (looseW hd.view_39 [Str.ofString "SnobolError"]) mean mg mb h₀) (_ : cs.kind = .function)
    (_ : x.length < 2 ^ 20) (_ : y.length < 2 ^ 20)
    (_ : dp + 5 < recursionLimit) (_ : un + 80 < cLine)
    (_ : (Less x y) → ∀ (t : Tok) (h' : Heap) (tk' : Nat), Fr h₀ L h' m → News h₀ L h' news → Q (.str (Str.ofString "") t) { s with heap := h', toks := tk' })
    (_ : ¬ (Less x y) → ∀ (f d : Addr) (h' : Heap) (tk' : Nat), Fr h₀ L h' m → News h₀ L h' ((f, instObj 47 d) :: (d, dictOf [] 0) :: news) → Q (.ref f) { s with heap := h', toks := tk' }),
    wpAny (model PySem.Challenge.rw_xm0943_01.row.prog w) (ktrTop dp un gd cn cs L a ccd cl outer) (call (.ref 121) [wv, .ref l]) Q E s := by
  k_fill
  intro w mean mg mb dp un gd cn cs a ccd cl outer A₀ base h₀ L m news s Q E x y t u wv l z B F X N T hk hx hy hd hu hyes hno
  refine wpAny_call ?_
  k_dflt cell_enter
  k_steps
  · rename (_ == _) = true => hf
    exact hyes (by unfold Less; simpa [eq_lt_lt, eq_ge_lt, eq_le_gt] using hf) _ _ _ (by assumption) (cb_drop (by assumption) (by intro p hp; repeat' (first | exact hp | refine List.mem_cons_of_mem _ ?_)))
  · rename (_ == _) = false => hf
    refine hno (by unfold Less; simpa [eq_lt_lt, eq_ge_lt, eq_le_gt] using hf) _ _ _ _ (by assumption) (cb_drop (by assumption) (List.forall_mem_cons.mpr ⟨.head _, List.forall_mem_cons.mpr ⟨.tail _ (.head _), ?_⟩⟩))
    intro p hp; repeat' (first | exact hp | refine List.mem_cons_of_mem _ ?_)

set_option maxRecDepth 100000 in
set_option maxHeartbeats 4000000 in
theorem lge_call : ∀ {w : World} {mean : ExcName → Option Value} {mg mb : Str → Option Value} {dp un : Nat} {gd : Option (List Code)} {cn : Str} {cs : Scope} {a : Addr} {ccd : Value} {cl : List (Str × Addr)} {outer : List Env} {A₀ : Around} {base h₀ : Heap} {L : Addr} {m : Str → Option Value} {news : List (Addr × Obj)} {s : Shared} {Q E : Value → Shared → Prop}
    {x y : Str} {t u : Tok} {wv : Value} {l : Addr} {z : Nat}
    (_ : Below A₀ base outer h₀) (_ : Fr h₀ L s.heap m) (_ : (hd.heap_39 w.params).In h₀) (_ : News h₀ L s.heap ((l, ({ cls := .type "list", data := .seq [.str x t, .str y u].toArray z } : Obj)) :: news)) (_ : Top hd.view_39 (looseW hd.view_39 [Str.ofString "SnobolError"]) mean mg mb h₀) (_ : cs.kind = .function)
    (_ : x.length < 2 ^ 20) (_ : y.length < 2 ^ 20)
    (_ : dp + 5 < recursionLimit) (_ : un + 80 < cLine)
    (_ : (GeS x y) → ∀ (t : Tok) (h' : Heap) (tk' : Nat), Fr h₀ L h' m → News h₀ L h' news → Q (.str (Str.ofString "") t) { s with heap := h', toks := tk' })
    (_ : ¬ (GeS x y) → ∀ (f d : Addr) (h' : Heap) (tk' : Nat), Fr h₀ L h' m → News h₀ L h' ((f, instObj 47 d) :: (d, dictOf [] 0) :: news) → Q (.ref f) { s with heap := h', toks := tk' }),
    wpAny (model PySem.Challenge.rw_xm0943_01.row.prog w) (ktrTop dp un gd cn cs L a ccd cl outer) (call (.ref 114) [wv, .ref l]) Q E s := by
  k_fill
  intro w mean mg mb dp un gd cn cs a ccd cl outer A₀ base h₀ L m news s Q E x y t u wv l z B F X N T hk hx hy hd hu hyes hno
  refine wpAny_call ?_
  k_dflt cell_enter
  k_steps
  · rename (_ == _) = true => hf
    exact hyes (by unfold GeS; simpa [eq_lt_lt, eq_ge_lt, eq_le_gt] using hf) _ _ _ (by assumption) (cb_drop (by assumption) (by intro p hp; repeat' (first | exact hp | refine List.mem_cons_of_mem _ ?_)))
  · rename (_ == _) = false => hf
    refine hno (by unfold GeS; simpa [eq_lt_lt, eq_ge_lt, eq_le_gt] using hf) _ _ _ _ (by assumption) (cb_drop (by assumption) (List.forall_mem_cons.mpr ⟨.head _, List.forall_mem_cons.mpr ⟨.tail _ (.head _), ?_⟩⟩))
    intro p hp; repeat' (first | exact hp | refine List.mem_cons_of_mem _ ?_)

set_option maxRecDepth 100000 in
set_option maxHeartbeats 4000000 in
theorem lle_call : ∀ {w : World} {mean : ExcName → Option Value} {mg mb : Str → Option Value} {dp un : Nat} {gd : Option (List Code)} {cn : Str} {cs : Scope} {a : Addr} {ccd : Value} {cl : List (Str × Addr)} {outer : List Env} {A₀ : Around} {base h₀ : Heap} {L : Addr} {m : Str → Option Value} {news : List (Addr × Obj)} {s : Shared} {Q E : Value → Shared → Prop}
    {x y : Str} {t u : Tok} {wv : Value} {l : Addr} {z : Nat}
    (_ : Below A₀ base outer h₀) (_ : Fr h₀ L s.heap m) (_ : (hd.heap_39 w.params).In h₀) (_ : News h₀ L s.heap ((l, ({ cls := .type "list", data := .seq [.str x t, .str y u].toArray z } : Obj)) :: news)) (_ : Top hd.view_39 (looseW hd.view_39 [Str.ofString "SnobolError"]) mean mg mb h₀) (_ : cs.kind = .function)
    (_ : x.length < 2 ^ 20) (_ : y.length < 2 ^ 20)
    (_ : dp + 5 < recursionLimit) (_ : un + 80 < cLine)
    (_ : (LeS x y) → ∀ (t : Tok) (h' : Heap) (tk' : Nat), Fr h₀ L h' m → News h₀ L h' news → Q (.str (Str.ofString "") t) { s with heap := h', toks := tk' })
    (_ : ¬ (LeS x y) → ∀ (f d : Addr) (h' : Heap) (tk' : Nat), Fr h₀ L h' m → News h₀ L h' ((f, instObj 47 d) :: (d, dictOf [] 0) :: news) → Q (.ref f) { s with heap := h', toks := tk' }),
    wpAny (model PySem.Challenge.rw_xm0943_01.row.prog w) (ktrTop dp un gd cn cs L a ccd cl outer) (call (.ref 128) [wv, .ref l]) Q E s := by
  k_fill
  intro w mean mg mb dp un gd cn cs a ccd cl outer A₀ base h₀ L m news s Q E x y t u wv l z B F X N T hk hx hy hd hu hyes hno
  refine wpAny_call ?_
  k_dflt cell_enter
  k_steps
  · rename (_ == _) = true => hf
    exact hyes (by unfold LeS; simpa [eq_lt_lt, eq_ge_lt, eq_le_gt] using hf) _ _ _ (by assumption) (cb_drop (by assumption) (by intro p hp; repeat' (first | exact hp | refine List.mem_cons_of_mem _ ?_)))
  · rename (_ == _) = false => hf
    refine hno (by unfold LeS; simpa [eq_lt_lt, eq_ge_lt, eq_le_gt] using hf) _ _ _ _ (by assumption) (cb_drop (by assumption) (List.forall_mem_cons.mpr ⟨.head _, List.forall_mem_cons.mpr ⟨.tail _ (.head _), ?_⟩⟩))
    intro p hp; repeat' (first | exact hp | refine List.mem_cons_of_mem _ ?_)
end Mine
end
section
open PySem PySem.W PyProof.Rows
namespace Mine
local macro_rules | `(tactic| k_room) => `(tactic| ktr_room)
local macro_rules | `(tactic| k_units) => `(tactic| ktr_units)

set_option maxRecDepth 100000 in
set_option maxHeartbeats 4000000 in
theorem isfail_str : ∀ {w : World} {mean : ExcName → Option Value} {mg mb : Str → Option Value} {dp un : Nat} {gd : Option (List Code)} {cn : Str} {cs : Scope} {a : Addr} {ccd : Value} {cl : List (Str × Addr)} {outer : List Env} {A₀ : Around} {base h₀ : Heap} {L : Addr} {m : Str → Option Value} {news : List (Addr × Obj)} {s : Shared} {Q E : Value → Shared → Prop}
    {x : Str} {t : Tok}
    (_ : Below A₀ base outer h₀) (_ : Fr h₀ L s.heap m) (_ : (hd.heap_39 w.params).In h₀) (_ : News h₀ L s.heap news) (_ : Top hd.view_39 (looseW hd.view_39 [Str.ofString "SnobolError"]) mean mg mb h₀) (_ : cs.kind = .function)
    (_ : dp + 5 < recursionLimit) (_ : un + 80 < cLine)
    (_ : ∀ (h' : Heap) (tk' : Nat), Fr h₀ L h' m → News h₀ L h' news → Q (.bool false) { s with heap := h', toks := tk' }),
    wpAny (model PySem.Challenge.rw_xm0943_01.row.prog w) (ktrTop dp un gd cn cs L a ccd cl outer) (call (.ref 58) [.str x t]) Q E s := by
  k_fill
  intro w mean mg mb dp un gd cn cs a ccd cl outer A₀ base h₀ L m news s Q E x t B F X N T hk hd hu hret
  refine wpAny_call ?_
  k_dflt cell_enter
  k_steps
  exact hret _ _ (by assumption) (by assumption)

set_option maxRecDepth 100000 in
set_option maxHeartbeats 4000000 in
theorem isfail_ref : ∀ {w : World} {mean : ExcName → Option Value} {mg mb : Str → Option Value} {dp un : Nat} {gd : Option (List Code)} {cn : Str} {cs : Scope} {a : Addr} {ccd : Value} {cl : List (Str × Addr)} {outer : List Env} {A₀ : Around} {base h₀ : Heap} {L : Addr} {m : Str → Option Value} {news : List (Addr × Obj)} {s : Shared} {Q E : Value → Shared → Prop}
    {f d : Addr}
    (_ : Below A₀ base outer h₀) (_ : Fr h₀ L s.heap m) (_ : (hd.heap_39 w.params).In h₀) (_ : News h₀ L s.heap ((f, instObj 47 d) :: (d, dictOf [] 0) :: news)) (_ : Top hd.view_39 (looseW hd.view_39 [Str.ofString "SnobolError"]) mean mg mb h₀) (_ : cs.kind = .function)
    (_ : dp + 5 < recursionLimit) (_ : un + 80 < cLine)
    (_ : ∀ (h' : Heap) (tk' : Nat), Fr h₀ L h' m → News h₀ L h' news → Q (.bool true) { s with heap := h', toks := tk' }),
    wpAny (model PySem.Challenge.rw_xm0943_01.row.prog w) (ktrTop dp un gd cn cs L a ccd cl outer) (call (.ref 58) [.ref f]) Q E s := by
  k_fill
  intro w mean mg mb dp un gd cn cs a ccd cl outer A₀ base h₀ L m news s Q E f d B F X N T hk hd hu hret
  refine wpAny_call ?_
  k_dflt cell_enter
  k_steps
  exact hret _ _ (by assumption) (cb_drop (by assumption) (fun p hp => .tail _ (.tail _ hp)))
end Mine
end
section
open PySem PySem.W PyProof.Rows
namespace Mine
section
variable {prog : Program} {w : World} {A : Around} {h₀ : Heap} {L : Addr} {m : Str → Option Value} {env : Env} {ct elt : Expr} {x : Str} {scope : Scope} {cl : List (Str × Addr)} {s : Shared} {S : List (Addr × Obj) → Prop} {P : Nat → Value → Prop} {Fin : List Value → List (Addr × Obj) → Prop} {news : List (Addr × Obj)}

/-- a comprehension, turn by turn: V says what the i-th turn yields -/
theorem rest_of {n : Nat} (V : Nat → Value → Prop)
    (turn : ∀ i v I oI C oC D m₂ ys h tk (E' : Value → Shared → Prop), i < n → P i v → LCg.NsObj oC m₂ → m₂ x = some v → Fr h₀ L h m → News h₀ L h ((I, oI) :: (C, oC) :: (D, LCg.lst ys) :: news) → LCg.Off3 I C D news → ((@Ne Nat I C) ∧ (@Ne Nat I D) ∧ (@Ne Nat C D)) →
      wpAny (model prog w) A (eval elt (compEnvC scope cl C env)) (LCg.CompEnd h₀ L m { s with heap := h, toks := tk } I oI C oC D (LCg.lst ys) S (fun y news' => news' = news ∧ V i y)) E' { s with heap := h, toks := tk })
    (fin : ∀ ys : List Value, ys.length = n → (∀ i y, ys[i]? = some y → V i y) → Fin ys news) : LCg.CompRest prog w A h₀ L m env elt x scope cl s S P Fin n 0 [] news := by
  have key : ∀ (j i : Nat) (ys : List Value), i + j = n → ys.length = i → (∀ i y, ys[i]? = some y → V i y) → LCg.CompRest prog w A h₀ L m env elt x scope cl s S P Fin j i ys news := by
    intro j
    induction j with
    | zero =>
      intro i ys hi hl hy
      exact LCg.CompRest.zero (fin ys (by omega) hy)
    | succ j ih =>
      intro i ys hi hl hy
      refine LCg.CompRest.succ ?_
      intro v I oI C oC D m₂ h tk E' hv hC hx F N off ne
      refine wpAny_mono (turn i v I oI C oC D m₂ ys h tk E' (by omega) hv hC hx F N off ne) (fun y s₂ hq => ?_) fun _ _ e => e
      obtain ⟨h', tk', nw, e, F', N', off', hS, hn, hV⟩ := hq
      rw [hn] at N' off' hS
      refine ⟨h', tk', news, e, F', N', off', hS, ih (i + 1) _ (by omega) (by simp [hl]) ?_⟩
      intro a b hb
      rcases Nat.lt_or_ge a ys.length with h1 | h1
      · rw [List.getElem?_append_left h1] at hb
        exact hy a b hb
      · rw [List.getElem?_append_right h1] at hb
        have h2 : a - ys.length = 0 := by
          rcases Nat.eq_zero_or_pos (a - ys.length) with h2 | h2
          · exact h2
          · rw [List.getElem?_eq_none (by simp; omega)] at hb; cases hb
        rw [h2] at hb
        have h3 : a = i := by omega
        subst h3
        cases hb
        exact hV
  exact key n 0 [] (by omega) rfl (by intro i y h; simp at h)

/-- the same with a test: J goes from turn to turn over what has been kept -/
theorem restT_of {n : Nat} (J : Nat → List Value → Prop) (h0 : J 0 [])
    (turn : ∀ i v I oI C oC D m₂ ys h tk (E' : Value → Shared → Prop), i < n → J i ys → P i v → LCg.NsObj oC m₂ → m₂ x = some v → Fr h₀ L h m → News h₀ L h ((I, oI) :: (C, oC) :: (D, LCg.lst ys) :: news) → LCg.Off3 I C D news → ((@Ne Nat I C) ∧ (@Ne Nat I D) ∧ (@Ne Nat C D)) →
      wpAny (model prog w) A (isTrue ct (compEnvC scope cl C env) (eval ct (compEnvC scope cl C env))) (fun b s' => if b = true then wpAny (model prog w) A (eval elt (compEnvC scope cl C env)) (LCg.CompEnd h₀ L m { s with heap := h, toks := tk } I oI C oC D (LCg.lst ys) S (fun y news' => news' = news ∧ J (i + 1) (ys ++ [y]))) E' s'
        else LCg.CompEnd h₀ L m { s with heap := h, toks := tk } I oI C oC D (LCg.lst ys) S (fun _ news' => news' = news ∧ J (i + 1) ys) Value.none s') E' { s with heap := h, toks := tk })
    (fin : ∀ ys : List Value, J n ys → Fin ys news) : LCt.CompRestT prog w A h₀ L m env ct elt x scope cl s S P Fin n 0 [] news := by
  have key : ∀ (j i : Nat) (ys : List Value), i + j = n → J i ys → LCt.CompRestT prog w A h₀ L m env ct elt x scope cl s S P Fin j i ys news := by
    intro j
    induction j with
    | zero =>
      intro i ys hi hJ
      have e : i = n := by omega
      subst e
      exact LCt.CompRestT.zero (fin ys hJ)
    | succ j ih =>
      intro i ys hi hJ
      refine LCt.CompRestT.succ ?_
      intro v I oI C oC D m₂ h tk E' hv hC hx F N off ne
      refine wpAny_mono (turn i v I oI C oC D m₂ ys h tk E' (by omega) hJ hv hC hx F N off ne) (fun b s₂ hq => ?_) fun _ _ e => e
      cases b with
      | true =>
        simp only [if_true] at hq ⊢
        refine wpAny_mono hq (fun y s₃ hr => ?_) fun _ _ e => e
        obtain ⟨h', tk', nw, e, F', N', off', hS, hn, hJ'⟩ := hr
        rw [hn] at N' off' hS
        exact ⟨h', tk', news, e, F', N', off', hS, ih (i + 1) _ (by omega) hJ'⟩
      | false =>
        simp only [Bool.false_eq_true, if_false] at hq ⊢
        obtain ⟨h', tk', nw, e, F', N', off', hS, hn, hJ'⟩ := hq
        rw [hn] at N' off' hS
        exact ⟨h', tk', news, e, F', N', off', hS, ih (i + 1) _ (by omega) hJ'⟩
  exact key n 0 [] (by omega) h0
end

def Hold (P : Prop) : Prop := P
theorem Hold.out {P : Prop} (h : Hold P) : P := h
theorem neTail {b c : Nat} : ∀ {news : List (Addr × Obj)}, AllLt b news → b ≤ c → ∀ p ∈ news, p.1 ≠ c
  | [], _, _, _, h => nomatch h
  | _ :: _, x, hb, p, h => by
    rcases List.mem_cons.mp h with rfl | h
    · exact Nat.ne_of_lt (Nat.lt_of_lt_of_le x.1 hb)
    · exact neTail x.2 hb p h
theorem news_tail {h₀ h : Heap} {L : Addr} {q : Addr × Obj} {r : List (Addr × Obj)} (N : News h₀ L h (q :: r)) : News h₀ L h r := fun p hp => N p (.tail _ hp)
end Mine
end
section
open PySem
namespace Mine

theorem ordL_self : ∀ x : List Nat, ordL x x = 0
  | [] => rfl
  | a :: x => by simp only [ordL, if_true]; exact ordL_self x
theorem ordL_eq : ∀ x y : List Nat, ordL x y = 0 → x = y
  | [], [], _ => rfl
  | [], _ :: _, h => by simp [ordL] at h
  | _ :: _, [], h => by simp [ordL] at h
  | a :: x, b :: y, h => by
    simp only [ordL] at h
    split at h
    · rename_i e; subst e; rw [ordL_eq x y h]
    · split at h <;> simp at h
theorem ordL_anti : ∀ x y : List Nat, ordL y x = - ordL x y
  | [], [] => rfl
  | [], _ :: _ => rfl
  | _ :: _, [] => rfl
  | a :: x, b :: y => by
    simp only [ordL]
    by_cases h : a = b
    · subst h; simp only [if_true]; exact ordL_anti x y
    · have h' : ¬ b = a := fun e => h e.symm
      rw [if_neg h, if_neg h']
      by_cases h1 : a < b
      · rw [if_pos h1, if_neg (by omega)]; rfl
      · rw [if_neg h1, if_pos (by omega)]
theorem ordL_trans : ∀ x y z : List Nat, ordL x y ≤ 0 → ordL y z ≤ 0 → ordL x z ≤ 0 ∧ (ordL x y < 0 ∨ ordL y z < 0 → ordL x z < 0)
  | [], [], [], _, _ => by simp [ordL]
  | [], [], _ :: _, _, _ => by simp [ordL]
  | [], _ :: _, [], _, h => by simp [ordL] at h
  | [], _ :: _, _ :: _, _, _ => by simp [ordL]
  | _ :: _, [], _, h, _ => by simp [ordL] at h
  | _ :: _, _ :: _, [], _, h => by simp [ordL] at h
  | a :: x, b :: y, c :: z, h1, h2 => by
    simp only [ordL] at h1 h2 ⊢
    by_cases e1 : a = b
    · subst e1
      simp only [if_true] at h1 ⊢
      by_cases e2 : a = c
      · subst e2
        simp only [if_true] at h2 ⊢
        exact ordL_trans x y z h1 h2
      · rw [if_neg e2] at h2 ⊢
        by_cases l2 : a < c
        · rw [if_pos l2]; exact ⟨by decide, fun _ => by decide⟩
        · rw [if_neg l2] at h2; exact absurd h2 (by decide)
    · rw [if_neg e1] at h1 ⊢
      by_cases l1 : a < b
      · rw [if_pos l1]
        by_cases e2 : b = c
        · subst e2
          rw [if_neg e1, if_pos l1]; exact ⟨by decide, fun _ => by decide⟩
        · rw [if_neg e2] at h2
          by_cases l2 : b < c
          · rw [if_neg (by omega), if_pos (by omega)]; exact ⟨by decide, fun _ => by decide⟩
          · rw [if_neg l2] at h2; exact absurd h2 (by decide)
      · rw [if_neg l1] at h1; exact absurd h1 (by decide)
theorem le_trans' {x y z : List Nat} (h1 : ordL x y ≤ 0) (h2 : ordL y z ≤ 0) : ordL x z ≤ 0 := (ordL_trans x y z h1 h2).1
theorem lt_of_lt_le {x y z : List Nat} (h1 : ordL x y < 0) (h2 : ordL y z ≤ 0) : ordL x z < 0 := (ordL_trans x y z (Int.le_of_lt h1) h2).2 (.inl h1)
theorem ordL_left : ∀ z x y : List Nat, ordL (z ++ x) (z ++ y) = ordL x y
  | [], _, _ => rfl
  | a :: z, x, y => by simp only [List.cons_append, ordL, if_true]; exact ordL_left z x y
theorem ordL_more (x y : List Nat) : ordL x (x ++ y) ≤ 0 := by
  have h := ordL_left x [] y
  rw [List.append_nil] at h
  rw [h]
  cases y <;> simp [ordL]
theorem ordL_dif : ∀ x y : List Nat, ordL x y < 0 → ¬ x <+: y → ∀ s t, ordL (x ++ s) (y ++ t) < 0
  | [], y, _, h, _, _ => absurd (List.nil_prefix) h
  | _ :: _, [], h, _, _, _ => by simp [ordL] at h
  | a :: x, b :: y, h, hp, s, t => by
    simp only [List.cons_append, ordL] at h ⊢
    by_cases e : a = b
    · subst e
      simp only [if_true] at h ⊢
      exact ordL_dif x y h (fun q => hp (by rw [List.cons_prefix_cons]; exact ⟨rfl, q⟩)) s t
    · rw [if_neg e] at h ⊢
      exact h

/-- less than all its own ends -/
def Lyn (w : List Nat) : Prop := w ≠ [] ∧ ∀ k, 0 < k → k < w.length → ordL w (w.drop k) < 0
theorem lyn_one (a : Nat) : Lyn [a] := ⟨by simp, fun k h1 h2 => absurd h2 (by simp; omega)⟩
theorem lyn_join {u v : List Nat} (hu : Lyn u) (hv : Lyn v) (h : ordL u v < 0) : Lyn (u ++ v) := by
  have c1 : ordL (u ++ v) v < 0 := by
    by_cases hp : u <+: v
    · obtain ⟨z, hz⟩ := hp
      have hzn : z ≠ [] := by
        rintro rfl
        rw [List.append_nil] at hz
        subst hz
        rw [ordL_self] at h
        exact absurd h (by decide)
      have hl : v.length = u.length + z.length := by rw [← hz, List.length_append]
      have h0 : 0 < u.length := List.length_pos_iff.mpr hu.1
      have h1 : 0 < z.length := List.length_pos_iff.mpr hzn
      have hd : v.drop u.length = z := by rw [← hz, List.drop_left]
      have h2 := hv.2 u.length h0 (by omega)
      rw [hd] at h2
      have e : ordL (u ++ v) (u ++ z) = ordL v z := ordL_left u v z
      rw [hz] at e
      rw [e]; exact h2
    · have := ordL_dif u v h hp v []
      rwa [List.append_nil] at this
  refine ⟨fun e => hu.1 (List.append_eq_nil_iff.mp e).1, fun k h1 h2 => ?_⟩
  rw [List.length_append] at h2
  rcases Nat.lt_trichotomy k u.length with hk | hk | hk
  · rw [List.drop_append_of_le_length (Nat.le_of_lt hk)]
    refine ordL_dif u (u.drop k) (hu.2 k h1 hk) (fun q => ?_) v v
    have := q.length_le
    rw [List.length_drop] at this
    omega
  · subst hk
    rw [List.drop_left]; exact c1
  · have e : k = u.length + (k - u.length) := by omega
    rw [e, List.drop_length_add_append]
    exact lt_of_lt_le c1 (Int.le_of_lt (hv.2 (k - u.length) (by omega) (by omega)))

def Falls : List (List Nat) → Prop
  | [] => True
  | [_] => True
  | p :: q :: r => 0 ≤ ordL p q ∧ Falls (q :: r)
theorem falls_tail {p : List Nat} : ∀ {r : List (List Nat)}, Falls (p :: r) → Falls r
  | [], _ => trivial
  | _ :: _, h => h.2
theorem falls_init {a : List Nat} : ∀ {ps : List (List Nat)}, Falls (ps ++ [a]) → Falls ps
  | [], _ => trivial
  | [_], _ => trivial
  | _ :: q :: r, h => ⟨h.1, falls_init (ps := q :: r) h.2⟩
theorem falls_of : ∀ {ps : List (List Nat)}, (∀ i, i + 1 < ps.length → 0 ≤ ordL (ps.getD i []) (ps.getD (i + 1) [])) → Falls ps
  | [], _ => trivial
  | [_], _ => trivial
  | p :: q :: r, h => ⟨by simpa using h 0 (by simp), falls_of (ps := q :: r) fun i hi => by simpa using h (i + 1) (by simpa using hi)⟩
theorem ge_le {p q : List Nat} (h : 0 ≤ ordL p q) : ordL q p ≤ 0 := by rw [ordL_anti p q]; omega
theorem last_le_head {a : List Nat} : ∀ {p : List Nat} {r : List (List Nat)}, Falls (p :: (r ++ [a])) → ordL a p ≤ 0
  | _, [], h => ge_le h.1
  | _, _ :: _, h => le_trans' (last_le_head (falls_tail h)) (ge_le h.1)
theorem last_le {a : List Nat} : ∀ {ps : List (List Nat)}, (∀ p ∈ ps ++ [a], Lyn p) → Falls (ps ++ [a]) → ∀ k, k < (ps ++ [a]).flatten.length → ordL a ((ps ++ [a]).flatten.drop k) ≤ 0
  | [], hl, _, k, hk => by
    simp only [List.nil_append, List.flatten_cons, List.flatten_nil, List.append_nil] at hk ⊢
    rcases Nat.eq_zero_or_pos k with rfl | h
    · rw [List.drop_zero, ordL_self]; exact Int.le_refl _
    · exact Int.le_of_lt ((hl a (by simp)).2 k h hk)
  | p :: ps, hl, hf, k, hk => by
    simp only [List.cons_append, List.flatten_cons] at hk ⊢
    rw [List.length_append] at hk
    by_cases h : k < p.length
    · rw [List.drop_append_of_le_length (Nat.le_of_lt h)]
      have h1 : ordL a p ≤ 0 := last_le_head hf
      have h2 : ordL p (p.drop k) ≤ 0 := by
        rcases Nat.eq_zero_or_pos k with rfl | h0
        · rw [List.drop_zero, ordL_self]; exact Int.le_refl _
        · exact Int.le_of_lt ((hl p (by simp)).2 k h0 h)
      exact le_trans' h1 (le_trans' h2 (ordL_more _ _))
    · have e : k = p.length + (k - p.length) := by omega
      rw [e, List.drop_length_add_append]
      exact last_le (fun q hq => hl q (List.mem_cons_of_mem _ hq)) (falls_tail hf) _ (by omega)
theorem flat_nil {ps : List (List Nat)} (hl : ∀ p ∈ ps, Lyn p) (h : ps.flatten = []) : ps = [] := by
  cases ps with
  | nil => rfl
  | cons p r => exact absurd (List.append_eq_nil_iff.mp h).1 (hl p (.head _)).1
theorem fall_unique : ∀ (n : Nat) (ps qs : List (List Nat)), ps.length = n → (∀ p ∈ ps, Lyn p) → (∀ p ∈ qs, Lyn p) → Falls ps → Falls qs → ps.flatten = qs.flatten → ps = qs := by
  intro n
  induction n with
  | zero =>
    intro ps qs hn hp hq _ _ e
    have h0 : ps = [] := List.length_eq_zero_iff.mp hn
    subst h0
    exact (flat_nil hq e.symm).symm
  | succ n ih =>
    intro ps qs hn hp hq fp fq e
    rcases List.eq_nil_or_concat ps with rfl | ⟨ps', a, hps⟩
    · simp at hn
    rcases List.eq_nil_or_concat qs with rfl | ⟨qs', b, hqs⟩
    · have := flat_nil hp e
      subst this; rfl
    rw [List.concat_eq_append] at hps hqs
    subst hps hqs
    have fa : (ps' ++ [a]).flatten = ps'.flatten ++ a := by simp
    have fb : (qs' ++ [b]).flatten = qs'.flatten ++ b := by simp
    have la : 0 < a.length := List.length_pos_iff.mpr (hp a (by simp)).1
    have lb : 0 < b.length := List.length_pos_iff.mpr (hq b (by simp)).1
    have h1 : ordL a b ≤ 0 := by
      have := last_le hp fp qs'.flatten.length (by rw [e, fb, List.length_append]; omega)
      rwa [e, fb, List.drop_left] at this
    have h2 : ordL b a ≤ 0 := by
      have := last_le hq fq ps'.flatten.length (by rw [← e, fa, List.length_append]; omega)
      rwa [← e, fa, List.drop_left] at this
    have hab : a = b := ordL_eq a b (by rw [ordL_anti a b] at h2; omega)
    subst hab
    rw [fa, fb] at e
    have e' := List.append_cancel_right e
    rw [ih ps' qs' (by simpa using hn) (fun p h => hp p (by simp [h])) (fun p h => hq p (by simp [h])) (falls_init fp) (falls_init fq) e']
end Mine
end
section
open PySem PyProof.Rows
namespace Mine

abbrev tl (x : Str) : List Nat := x.cps.toList
theorem tl_inj {x y : Str} (h : tl x = tl y) : x = y := by
  cases x; cases y
  exact congrArg Str.mk (Array.toList_inj.mp h)
theorem tl_append (x y : Str) : tl (x ++ y) = tl x ++ tl y := by
  show (x.cps ++ y.cps).toList = _
  rw [Array.toList_append]
theorem tl_len (x : Str) : (tl x).length = x.length := cps_len x

/-- what holds of the parts between the turns -/
def Inv (x : Str) (parts : List Str) : Prop := (∀ p ∈ parts, Lyn (tl p)) ∧ (parts.map tl).flatten = tl x
def LenOk (parts : List Str) : Prop := ∀ i, (parts.getD i Str.empty).length < 2 ^ 20
theorem LenOk.at {parts : List Str} (h : LenOk parts) (i : Nat) : (parts.getD i Str.empty).length < 2 ^ 20 := h i
theorem mem_len {parts : List Str} {p : Str} (h : p ∈ parts) : p.length ≤ (parts.map tl).flatten.length := by
  induction parts with
  | nil => cases h
  | cons q r ih =>
    rw [List.map_cons, List.flatten_cons, List.length_append]
    rcases List.mem_cons.mp h with rfl | h
    · rw [tl_len]; omega
    · have := ih h; omega
theorem Inv.lenOk {x : Str} {parts : List Str} (h : Inv x parts) (hx : x.length < 2 ^ 20) : LenOk parts := fun i => by
  rw [List.getD_eq_getElem?_getD]
  cases e : parts[i]? with
  | none => decide
  | some p =>
    have := mem_len (List.mem_of_getElem? e)
    rw [h.2, tl_len] at this
    exact Nat.lt_of_le_of_lt this hx
theorem Inv.ne {x : Str} {parts : List Str} (h : Inv x parts) (hx : 1 ≤ x.length) : 1 ≤ parts.length := by
  cases parts with
  | nil => have e : [] = tl x := h.2; rw [← tl_len, ← e] at hx; simp at hx
  | cons _ _ => simp
theorem tl_sign (n : Nat) : tl ⟨#[n]⟩ = [n] := rfl
theorem Inv.start (x : Str) : Inv x (signs x) := by
  refine ⟨fun p hp => ?_, ?_⟩
  · obtain ⟨n, _, rfl⟩ := List.mem_map.mp hp
    exact lyn_one n
  · unfold signs
    rw [List.map_map]
    show _ = x.cps.toList
    generalize x.cps.toList = l
    induction l with
    | nil => rfl
    | cons a r ih => rw [List.map_cons, List.flatten_cons, ih]; rfl
theorem getD_split {parts : List Str} {a : Nat} (h : a + 1 < parts.length) : parts = parts.take a ++ parts.getD a Str.empty :: parts.getD (a + 1) Str.empty :: parts.drop (a + 2) := by
  have e1 : parts.drop a = parts.getD a Str.empty :: parts.drop (a + 1) := by
    rw [List.drop_eq_getElem_cons (by omega), List.getD_eq_getElem?_getD, List.getElem?_eq_getElem (by omega)]; rfl
  have e2 : parts.drop (a + 1) = parts.getD (a + 1) Str.empty :: parts.drop (a + 2) := by
    rw [List.drop_eq_getElem_cons (by omega), List.getD_eq_getElem?_getD, List.getElem?_eq_getElem (by omega)]; rfl
  rw [← e2, ← e1, List.take_append_drop]
theorem getD_mem' {parts : List Str} {a : Nat} (h : a < parts.length) : parts.getD a Str.empty ∈ parts := by
  rw [List.getD_eq_getElem?_getD, List.getElem?_eq_getElem h]; exact List.getElem_mem h
theorem Inv.lyn {x : Str} {parts : List Str} (h : Inv x parts) {a : Nat} (ha : a + 1 < parts.length) (hr : ordS (parts.getD a Str.empty) (parts.getD (a + 1) Str.empty) < 0) : Lyn (tl (parts.getD a Str.empty ++ parts.getD (a + 1) Str.empty)) := by
  rw [tl_append]
  exact lyn_join (h.1 _ (getD_mem' (by omega))) (h.1 _ (getD_mem' ha)) hr
theorem Inv.step {x : Str} {parts : List Str} (h : Inv x parts) {a : Nat} (ha : a + 1 < parts.length) (hr : ordS (parts.getD a Str.empty) (parts.getD (a + 1) Str.empty) < 0) :
    Inv x (parts.take a ++ [parts.getD a Str.empty ++ parts.getD (a + 1) Str.empty] ++ parts.drop (a + 2)) := by
  have hl := h.lyn ha hr
  refine ⟨fun p hp => ?_, ?_⟩
  · rcases List.mem_append.mp hp with hp | hp
    · rcases List.mem_append.mp hp with hp | hp
      · exact h.1 p (List.mem_of_mem_take hp)
      · rw [List.mem_singleton.mp hp]; exact hl
    · exact h.1 p (List.mem_of_mem_drop hp)
  · have e := h.2
    rw [getD_split ha] at e
    rw [← e]
    simp only [List.map_append, List.map_cons, List.map_nil, List.flatten_append, List.flatten_cons, List.flatten_nil, tl_append, List.append_nil, List.append_assoc]
theorem step_len {parts : List Str} {a : Nat} (ha : a + 1 < parts.length) (n : Str) : (parts.take a ++ [n] ++ parts.drop (a + 2)).length + 1 = parts.length := by
  simp only [List.length_append, List.length_take, List.length_drop, List.length_singleton]; omega

def Done (x : Str) (parts : List Str) : Prop := Inv x parts ∧ ∀ i, i + 1 < parts.length → 0 ≤ ordS (parts.getD i Str.empty) (parts.getD (i + 1) Str.empty)
theorem map_getD (parts : List Str) (i : Nat) : (parts.map tl).getD i [] = tl (parts.getD i Str.empty) := by
  simp only [List.getD_eq_getElem?_getD, List.getElem?_map]
  cases parts[i]? with
  | none => rfl
  | some p => rfl
theorem Done.falls {x : Str} {parts : List Str} (h : Done x parts) : Falls (parts.map tl) := falls_of fun i hi => by
  rw [map_getD, map_getD]
  exact h.2 i (by simpa using hi)
theorem Done.lyn {x : Str} {parts : List Str} (h : Done x parts) : ∀ p ∈ parts.map tl, Lyn p := fun p hp => by
  obtain ⟨q, hq, rfl⟩ := List.mem_map.mp hp
  exact h.1.1 q hq
theorem map_tl_inj : ∀ {ps qs : List Str}, ps.map tl = qs.map tl → ps = qs
  | [], [], _ => rfl
  | [], _ :: _, h => by simp at h
  | _ :: _, [], h => by simp at h
  | p :: ps, q :: qs, h => by
    simp only [List.map_cons, List.cons.injEq] at h
    rw [tl_inj h.1, map_tl_inj h.2]
theorem Done.unique {x : Str} {ps qs : List Str} (h1 : Done x ps) (h2 : Done x qs) : ps = qs :=
  map_tl_inj (fall_unique _ _ _ rfl h1.lyn h2.lyn h1.falls h2.falls (h1.1.2.trans h2.1.2.symm))
theorem Done.last {x : Str} {parts : List Str} (h : Done x parts) {k : Nat} (hk : k < x.length) : ordL (tl (parts.getD (parts.length - 1) Str.empty)) ((tl x).drop k) ≤ 0 := by
  rcases List.eq_nil_or_concat parts with rfl | ⟨ps, a, hps⟩
  · have e : [] = tl x := h.1.2
    rw [← tl_len, ← e] at hk; simp at hk
  · rw [List.concat_eq_append] at hps
    subst hps
    have e : (ps ++ [a]).getD ((ps ++ [a]).length - 1) Str.empty = a := by simp
    rw [e]
    have hf := h.falls
    have hl := h.lyn
    have he := h.1.2
    rw [List.map_append, List.map_cons, List.map_nil] at hf hl he
    rw [← he]
    exact last_le hl hf k (by rw [he, tl_len]; exact hk)
end Mine
end
section
open PySem PySem.W PyProof.Rows
namespace Mine
theorem tl_slice {x : Str} {i : Int} (h0 : 0 ≤ i) (h1 : i ≤ x.length) : tl (Txt.slice x (some i) none) = (tl x).drop i.toNat := by
  rw [slice_from_eq h0 h1 rfl]
  show List.take _ _ = _
  refine List.take_of_length_le ?_
  rw [List.length_drop, cps_len]; omega
theorem less_end {x : Str} (h : Lyn (tl x)) {i : Nat} (hi : 1 + (i : Int) < (x.length : Int)) : Less x (Txt.slice x (some (1 + (i : Int))) none) := by
  show ordL (tl x) (tl _) < 0
  rw [tl_slice (by omega) (by omega)]
  exact h.2 _ (by omega) (by rw [tl_len]; omega)
theorem bools_false {n : Nat} {ys : List Value} (hl : ys.length = n) (h : ∀ (i : Nat) (y : Value), ys[i]? = some y → y = Value.bool false) : LSm.BoolsAre ys (List.replicate n false) := by
  induction n generalizing ys with
  | zero =>
    cases ys with
    | nil => exact .nil
    | cons _ _ => simp at hl
  | succ n ih =>
    cases ys with
    | nil => simp at hl
    | cons y r =>
      have h0 := h 0 y (by simp)
      subst h0
      exact .cons _ (ih (by simpa using hl) fun i y e => h (i + 1) y (by simpa using e))
theorem any_false (n : Nat) : (List.replicate n false).any id = false := by
  induction n with
  | zero => rfl
  | succ n ih => rw [List.replicate_succ, List.any_cons, ih]; rfl
theorem strs_take {vs : List Value} {ss : List Str} (h : StrsAre vs ss) : ∀ k : Nat, StrsAre (vs.take k) (ss.take k) := by
  induction h with
  | nil => intro k; simp; exact .nil
  | cons y t _ ih =>
    intro k
    cases k with
    | zero => exact .nil
    | succ k => exact .cons y t (ih k)
theorem strs_upto {vs : List Value} {ss : List Str} (hi : StrsAre vs ss) {y : Int} (h0 : 0 ≤ y) : StrsAre (slicePick vs.toArray none (some y) none).toList (ss.take y.toNat) := by
  have ey : y = (y.toNat : Int) := by omega
  rw [ey, slicePick_upto' vs.toArray y.toNat]
  simpa [← ey] using strs_take hi y.toNat
theorem strs_from {vs : List Value} {ss : List Str} (hi : StrsAre vs ss) {x : Int} (h0 : 0 ≤ x) : StrsAre (slicePick vs.toArray (some x) none none).toList (ss.drop x.toNat) := by
  have ex : x = (x.toNat : Int) := by omega
  rw [ex, slicePick_from' vs.toArray x.toNat]
  simpa [← ex] using StrsAre.drop' hi x.toNat
theorem strs_app {vs ws : List Value} {ss ts : List Str} (h : StrsAre vs ss) (h' : StrsAre ws ts) : StrsAre (vs ++ ws) (ss ++ ts) := by
  induction h with
  | nil => exact h'
  | cons y t _ ih => exact .cons y t ih
section
variable {prog : Program} {w : World} {A : Around} {E : Value → Shared → Prop} {s : Shared} {h₀ : Heap} {L : Addr} {m : Str → Option Value} {news : List (Addr × Obj)}
theorem cat_strs {l b : Addr} {its its2 : Array Value} {ss ts : List Str} {Q : Value → Shared → Prop} (F : Fr h₀ L s.heap m) (N : News h₀ L s.heap news) (hl : s.heap.IsList l its) (hb : s.heap.IsList b its2)
    (hi : StrsAre its.toList ss) (hj : StrsAre its2.toList ts) (hsz : ss.length + ts.length ≤ sizeLine)
    (h : ∀ D zs h', Fr h₀ L h' m → News h₀ L h' ((D, W.listOf (List.toArray zs) 0) :: news) → AllLt D news → StrsAre zs (ss ++ ts) → Q (.ref D) { s with heap := h' }) :
    wpAny (model prog w) A (binaryOp .Add (.ref l) (.ref b)) Q E s :=
  add_arrays (hsz := by rw [← Array.length_toList, ← Array.length_toList, StrsAre.length hi, StrsAre.length hj]; exact hsz) F N hl hb fun h' F' N' =>
    h _ _ h' F' N' (allLt_of fun p hp => Heap.lt_size (N p hp).1) (strs_app hi hj)
theorem news_pick {h : Heap} {q0 q1 q2 q3 q4 q5 q6 : Addr × Obj} {r : List (Addr × Obj)} (N : News h₀ L h (q0 :: q1 :: q2 :: q3 :: q4 :: q5 :: q6 :: r)) : News h₀ L h (q1 :: r) := fun p hp => N p (by
  rcases List.mem_cons.mp hp with rfl | hp
  · exact .tail _ (.head _)
  · exact .tail _ (.tail _ (.tail _ (.tail _ (.tail _ (.tail _ (.tail _ hp)))))))
end
theorem step2_next {h₀ h' : Heap} {L : Addr} {s : Shared} {J : Nat → (Str → Option Value) → List (Addr × Obj) → Prop} {Q : Flow → Shared → Prop} {n n' tk : Nat} {m₂ : Str → Option Value} {news₂ : List (Addr × Obj)}
    (F : Fr h₀ L h' m₂) (N : News h₀ L h' news₂) (hn : n' < n) (hJ : J n' m₂ news₂) : WhileStep2 h₀ L s J Q n .next { s with heap := h', toks := tk } := ⟨h', tk, m₂, news₂, n', rfl, F, N, hn, hJ⟩
theorem map_ok {t a p d : Str} {A B C A0 D : Option Value} {u : Str → Option Value} (h1 : d ≠ a) (h2 : d ≠ p) :
    (fun y : Str => if y = t then A else if y = a then B else if y = p then C else if y = t then A0 else if y = d then D else u y) = fun y => if y = t then A else if y = d then D else (fun y => if y = a then B else if y = p then C else u y) y := by
  funext y
  by_cases e1 : y = t
  · simp only [if_pos e1]
  · simp only [if_neg e1]
    by_cases e2 : y = d
    · subst e2; simp only [if_neg h1, if_neg h2, if_true]
    · simp only [if_neg e2]
theorem map_ok0 {t d : Str} {A D : Option Value} {u : Str → Option Value} (h : u d = D) : (fun y : Str => if y = t then A else u y) = fun y => if y = t then A else if y = d then D else u y := by
  funext y
  by_cases e1 : y = t
  · simp only [if_pos e1]
  · simp only [if_neg e1]
    by_cases e2 : y = d
    · subst e2; simp only [if_true, h]
    · simp only [if_neg e2]
theorem strs_of_carried : ∀ {vs : List Value} {ss : List Str}, CarriedAll vs (ss.map PyData.str) → StrsAre vs ss
  | _, [], .nil => .nil
  | _, _ :: _, .cons (.str _ t) r => .cons _ t (strs_of_carried r)
theorem allLt_le {b c : Nat} (h : b ≤ c) : ∀ {news : List (Addr × Obj)}, AllLt b news → AllLt c news
  | [], _ => trivial
  | _ :: _, x => ⟨Nat.lt_of_lt_of_le x.1 h, allLt_le h x.2⟩
end Mine
end
section
open PySem PySem.W PyProof.Rows
namespace Mine
theorem toNat_one (i : Nat) : ((i : Int) + 1).toNat = i + 1 := by omega
theorem rise_no {parts : List Str} {i : Nat} (h : ¬ Less (parts.getD ((i : Int)).toNat Str.empty) (parts.getD ((i : Int) + 1).toNat Str.empty)) : Value.bool (!true) = Value.bool (decide (ordS (parts.getD i Str.empty) (parts.getD (i + 1) Str.empty) < 0)) := by
  unfold Less at h
  rw [Int.toNat_natCast, toNat_one] at h
  rw [decide_eq_false h]; rfl
theorem rise_yes {parts : List Str} {i : Nat} (h : Less (parts.getD ((i : Int)).toNat Str.empty) (parts.getD ((i : Int) + 1).toNat Str.empty)) : Value.bool (!false) = Value.bool (decide (ordS (parts.getD i Str.empty) (parts.getD (i + 1) Str.empty) < 0)) := by
  unfold Less at h
  rw [Int.toNat_natCast, toNat_one] at h
  rw [decide_eq_true h]; rfl
theorem bools_of {n : Nat} {b : Nat → Bool} {ys : List Value} (hl : ys.length = n) (h : ∀ i y, ys[i]? = some y → y = Value.bool (b i)) : LSm.BoolsAre ys ((List.range n).map b) := by
  induction n generalizing b ys with
  | zero =>
    cases ys with
    | nil => exact .nil
    | cons _ _ => simp at hl
  | succ n ih =>
    cases ys with
    | nil => simp at hl
    | cons y r =>
      have h0 := h 0 y (by simp)
      subst h0
      rw [List.range_succ_eq_map, List.map_cons, List.map_map]
      exact .cons _ (ih (by simpa using hl) fun i y e => h (i + 1) y (by simpa using e))
def placesOf (bs : List Bool) (n : Nat) : List Int := ((List.range n).filter fun j => bs.getD j false).map Int.ofNat
theorem places_nil {bs : List Bool} : IntsAre [] (placesOf bs 0) := .nil
theorem places_len {bs : List Bool} {n : Nat} : (placesOf bs n).length ≤ n := by
  unfold placesOf
  rw [List.length_map]
  exact Nat.le_trans (List.length_filter_le _ _) (by rw [List.length_range]; exact Nat.le_refl _)
theorem getD_mem {pl : List Int} {X : Int} (h : 1 ≤ pl.length) : pl.getD (X.fmod (pl.length : Int)).toNat 0 ∈ pl := by
  have h0 : 0 ≤ X.fmod (pl.length : Int) := Int.fmod_nonneg_of_pos _ (by omega)
  have h1 : X.fmod (pl.length : Int) < (pl.length : Int) := Int.fmod_lt_of_pos _ (by omega)
  have h2 : (X.fmod (pl.length : Int)).toNat < pl.length := by omega
  rw [List.getD_eq_getElem?_getD, List.getElem?_eq_getElem h2]
  exact List.getElem_mem h2
theorem places_mem {bs : List Bool} {n : Nat} {A : Int} (h : A ∈ placesOf bs n) : 0 ≤ A ∧ A < (n : Int) ∧ bs.getD A.toNat false = true := by
  unfold placesOf at h
  obtain ⟨j, hj, rfl⟩ := List.mem_map.mp h
  obtain ⟨h1, h2⟩ := List.mem_filter.mp hj
  have := List.mem_range.mp h1
  exact ⟨Int.natCast_nonneg _, Int.ofNat_lt.mpr this, h2⟩
theorem places_none {bs : List Bool} {n : Nat} (h : placesOf bs n = []) {j : Nat} (hj : j < n) : bs.getD j false = false := by
  cases e : bs.getD j false with
  | false => rfl
  | true =>
    unfold placesOf at h
    rw [List.map_eq_nil_iff, List.filter_eq_nil_iff] at h
    exact absurd e (h j (List.mem_range.mpr hj))
theorem places_yes {bs : List Bool} {ys : List Value} {i : Nat} {t : Tok} (h : IntsAre ys (placesOf bs i)) (hb : bs.getD ((i : Int)).toNat false = true) : IntsAre (ys ++ [.int (i : Int) t]) (placesOf bs (i + 1)) := by
  rw [Int.toNat_natCast] at hb
  unfold placesOf
  rw [List.range_succ, List.filter_append, List.map_append]
  simp only [List.filter_cons, hb, if_true, List.filter_nil, List.map_cons, List.map_nil]
  exact IntsAre.append h (.cons _ _ .nil)
theorem places_no {bs : List Bool} {ys : List Value} {i : Nat} (h : IntsAre ys (placesOf bs i)) (hb : bs.getD ((i : Int)).toNat false = false) : IntsAre ys (placesOf bs (i + 1)) := by
  rw [Int.toNat_natCast] at hb
  unfold placesOf
  rw [List.range_succ, List.filter_append, List.map_append]
  simp only [List.filter_cons, hb, Bool.false_eq_true, if_false, List.filter_nil, List.map_nil, List.append_nil]
  exact h
theorem strs_len {vs : List Value} {xs : List Str} (h : StrsAre vs xs) : vs.length = xs.length := by
  induction h with
  | nil => rfl
  | cons _ _ _ ih => simp [ih]
local macro_rules | `(tactic| k_room) => `(tactic| ktr_room)
local macro_rules | `(tactic| k_units) => `(tactic| ktr_units)
local macro_rules | `(tactic| k_all) => `(tactic| exact neTail (by assumption) (by (try dsimp only); omega))
local macro_rules | `(tactic| walk_at "newTuple") => `(tactic| (k_here; (try gn_on); k_dflt (refine' kup_newTuple ?F ?N ?_ ?z; (case F => k_asm); (case N => k_asm); (case z => kmk_size)); intro D' h' F' N' l1; (try k_lt l1); (try k_sweep)))
local macro_rules | `(tactic| walk_at "exec Assign cons ListComp") => `(tactic| (k_here; (with_reducible show wpAny _ _ (exec (Stmt.Assign [_] (Expr.ListComp _ [Comprehension.mk _ _ [_] _] _ _) _) _) _ _ _); k_dflt (refine LCt.Assign_ListComp_T (F₀ := by k_asm) (by rfl) (by with_unfolding_all rfl) (by with_unfolding_all rfl) (by decide) (by rfl) (by decide) (by rfl) (by rfl) (by rfl) ?_)))
local macro_rules | `(tactic| walk_at "CompSrc") => `(tactic| refine Hold.out ?_)
local macro_rules | `(tactic| walk_at "CompSrcT") => `(tactic| refine Hold.out ?_)
local macro_rules | `(tactic| walk_at "CompEnd") => `(tactic| refine Hold.out ?_)
local macro_rules | `(tactic| walk_at "binaryOp Add ref ref") => `(tactic| (k_here; (with_reducible show wpAny _ _ (binaryOp _ (Value.ref _) (Value.ref _)) _ _ _); k_dflt ((refine' cat_strs ?k1 ?k2 ?k3 ?k4 ?k5 ?k6 ?k7 (fun D' zs' h' F' N' l1 hS' => ?_)); (case k1 => k_asm); (case k2 => k_asm); (case k3 => exact News.isList (by k_asm) (by k_mem)); (case k4 => exact News.isList (by k_asm) (by k_mem)); (case k5 => first | assumption | exact .cons _ _ .nil); (case k6 => first | assumption | exact .cons _ _ .nil); (case k7 => (simp only [List.length_append, List.length_take, List.length_drop, List.length_singleton, List.length_cons, List.length_nil, PySem.sizeLine_eq]; omega)); (try k_lt l1))))
local macro_rules | `(tactic| walk_at "call ref") => `(tactic| (k_here; (with_reducible show wpAny _ _ (call (Value.ref 58) [Value.str _ _]) _ _ _); k_dflt ((refine' isfail_str ?k1 ?k2 ?k3 ?k4 ?k5 ?k6 ?k9 ?k10 (fun h' tk' F' N' => ?_)); (case k1 => k_asm); (case k2 => k_asm); (case k3 => k_asm); (case k4 => k_asm); (case k5 => k_asm); (case k6 => first | exact rfl | assumption); (case k9 => ktr_room); (case k10 => ktr_units); (try dsimp only); (try k_fold))))
local macro_rules | `(tactic| walk_at "call ref") => `(tactic| (k_here; (with_reducible show wpAny _ _ (call (Value.ref 58) [Value.ref _]) _ _ _); k_dflt ((refine' isfail_ref ?k1 ?k2 ?k3 ?k4 ?k5 ?k6 ?k9 ?k10 (fun h' tk' F' N' => ?_)); (case k1 => k_asm); (case k2 => k_asm); (case k3 => k_asm); (case k4 => k_asm); (case k5 => k_asm); (case k6 => first | exact rfl | assumption); (case k9 => ktr_room); (case k10 => ktr_units); (try dsimp only); (try k_fold))))
local macro_rules | `(tactic| walk_at "call ref") => `(tactic| (k_here; (with_reducible show wpAny _ _ (call (Value.ref 121) [_, Value.ref _]) _ _ _); k_dflt ((refine' llt_call ?k1 ?k2 ?k3 ?k4 ?k5 ?k6 ?k7 ?k8 ?k9 ?k10 (fun hc' t' h' tk' F' N' => ?_) (fun hc' f' d' h' tk' F' N' => ?_)); (case k1 => k_asm); (case k2 => k_asm); (case k3 => k_asm); (case k4 => k_asm); (case k5 => k_asm); (case k6 => first | exact rfl | assumption); (case k7 => first | assumption | exact LenOk.at (by assumption) _ | omega); (case k8 => first | assumption | exact LenOk.at (by assumption) _ | omega); (case k9 => ktr_room); (case k10 => ktr_units); (all_goals (try dsimp only)); (all_goals (try k_fold)))))

set_option maxRecDepth 100000 in
set_option maxHeartbeats 4000000 in
theorem joined_call : ∀ {w : World} {mean : ExcName → Option Value} {mg mb : Str → Option Value} {dp un : Nat} {gd : Option (List Code)} {cn : Str} {cs : Scope} {a : Addr} {ccd : Value} {cl : List (Str × Addr)} {outer : List Env} {A₀ : Around} {base h₀ : Heap} {L : Addr} {m : Str → Option Value} {news : List (Addr × Obj)} {s : Shared} {Q E : Value → Shared → Prop}
    {x : Str} {t : Tok} {wv : Value} {l : Addr} {vs : List Value} {ns : List Int} {z : Nat}
    (_ : Below A₀ base outer h₀) (_ : Fr h₀ L s.heap m) (_ : (hd.heap_39 w.params).In h₀) (_ : News h₀ L s.heap ((l, ({ cls := .type "list", data := .seq vs.toArray z } : Obj)) :: news)) (_ : Top hd.view_39 (looseW hd.view_39 [Str.ofString "SnobolError"]) mean mg mb h₀) (_ : cs.kind = .function)
    (_ : IntsAre vs ns) (_ : 1 ≤ ns.length) (_ : ns.length < 2 ^ 20) (_ : 1 ≤ x.length) (_ : x.length < 2 ^ 20)
    (_ : dp + 9 < recursionLimit) (_ : un + 200 < cLine)
    (_ : ∀ (parts : List Str) (ys : List Value) (p : Addr) (k : Nat) (h' : Heap) (tk' : Nat), Done x parts → StrsAre ys parts → @LT.lt Nat _ l p → AllLt p news → Fr h₀ L h' m →
      News h₀ L h' ((p, W.listOf ys.toArray k) :: (l, ({ cls := .type "list", data := .seq vs.toArray z } : Obj)) :: news) → Q (.ref p) { s with heap := h', toks := tk' }),
    wpAny (model PySem.Challenge.rw_xm0943_01.row.prog w) (ktrTop dp un gd cn cs L a ccd cl outer) (call (.ref 155) [wv, .str x t, .ref l]) Q E s := by
  k_fill
  intro w mean mg mb dp un gd cn cs a ccd cl outer A₀ base h₀ L m news s Q E x t wv l vs ns z B F X N T hk hi hn1 hnl hx1 hx hd hu hret
  k_with "exec While Constant cons nil" => refine Hold.out ?_
  refine wpAny_call ?_
  (refine' code_defC ?k1 ?k2 ?k3 ?k4 ?k5 ?kA ?kF ?kK ?k6 ?k7 ?k8 ?k9 ?kB ?kD ?_ ?c2 ?c3 ?c4; (case kA => exact rfl); (case kF => exact rfl); (case kK => exact hk); (case k1 => k_asm); (case k2 => k_asm); (case k3 => k_asm); (case k4 => k_asm); (case k5 => k_asm); (case k6 => k_is); (case k7 => k_is); (case k8 => ktr_room); (case k9 => exact BindsTo.of_eq rfl); (case kB => exact rfl); (case kD => decide +kernel); (case c2 => exact rfl); (case c3 => exact rfl); (case c4 => exact rfl); k_whole; intro g' L' h' tk' cells' FG' F' N' Y' B' X' T' l1; (try k_lt l1); k_cells Y'; (try simp only [List.cons_append, List.nil_append] at N'); (try dsimp only); (try k_lift B'); (try k_fold))
  have hAll := l1.2
  rename_i o1 o2 o3 o4 d1 d2 d3 d4
  have hLp0 : @LT.lt Nat _ (L' + 4) h'.objs.size := Heap.lt_size (N' _ (.head _)).1
  have d4w : o4.data = .cell (some wv) := d4
  have d1w : o1.data = .cell none := d1
  have d2w : o2.data = .cell none := d2
  clear d1 d2 d4
  k_steps
  unfold Hold
  rename Fr _ _ _ _ => FW
  rename News _ _ _ _ => NW
  rename CarriedAll _ _ => hCA
  rename _ = Data.cell (some (Value.ref _)) => dP
  refine While_inv2 (J := fun n m₁ news₁ => ∃ (parts : List Str) (ys : List Value) (p : Addr) (k : Nat) (T : Int) (tT : Tok) (u : Str → Option Value) (oN oR oP oW : Obj) (vN vR : Option Value),
    n = parts.length ∧ Inv x parts ∧ StrsAre ys parts ∧ 0 ≤ T ∧ T + parts.length = x.length ∧ oN.data = .cell vN ∧ oR.data = .cell vR ∧ oP.data = .cell (some (.ref p)) ∧ oW.data = .cell (some wv) ∧ @LT.lt Nat _ (L' + 4) p ∧ 
    m₁ = (fun y => if y = Str.ofString "turn" then some (.int T tT) else if y = Str.ofString "draws" then some (.ref l) else u y) ∧
    news₁ = (p, W.listOf ys.toArray k) :: (L' + 1 + 1 + 1 + 1, oN) :: (L' + 1 + 1 + 1, oR) :: (L' + 1 + 1, oP) :: (L' + 1, oW) :: (l, { cls := .type "list", data := .seq vs.toArray z }) :: news) (n₀ := x.length) FW (news_tail NW) ?hJ ?turn
  case turn =>
    rintro n m₁ news₁ h₁ tk₁ F₁ N₁ ⟨parts, ys, p, k, T, tT, u, oN, oR, oP, oW, vN, vR, hn, hInv, hS, hT0, hTl, eN, eR, eP, eW, hLp, rfl, rfl⟩
    clear dP hCA NW FW d3 d2w d1w d4w
    (with_reducible rename (_ ∧ _ ∧ _ ∧ _ ∧ _ ∧ GnNe _ _) => hz; clear hz)
    (with_reducible rename (_ ∧ _ ∧ _ ∧ _ ∧ _ ∧ _ ∧ AllLt _ _) => hz; clear hz)
    have hSl : ys.length = parts.length := strs_len hS
    have hLen : LenOk parts := hInv.lenOk hx
    have hpl : parts.length < 2 ^ 20 := by omega
    have hpn : 1 ≤ parts.length := hInv.ne hx1
    k_steps
    with_reducible rename IsRange _ _ _ _ _ _ _ _ => hR
    refine LCg.CompSrc.range (by rfl) (by k_asm) (by k_asm) hR (small_one (by omega) (by omega) (by omega) (by omega)) (rangeSize_nat _ _) (by rw [PySem.sizeLine_eq]; omega) ?_
    intro gA
    refine rest_of (V := fun i y => y = .bool (decide (ordS (parts.getD i Str.empty) (parts.getD (i + 1) Str.empty) < 0))) ?turnA ?finA
    case turnA =>
      rintro i v I oI C oC D m₂ ysA h tk E' hi ⟨ti, rfl⟩ hC hx F N off ne
      simp only [Int.zero_add] at hx
      clear ne
      k_steps
      all_goals (unfold Hold; refine LCg.CompEnd.intro (by assumption) (by assumption) _ ?_ off trivial ⟨rfl, ?_⟩)
      all_goals first | exact rise_no (by assumption) | exact rise_yes (by assumption) | kcf_all
    case finA =>
      intro ysA hlA hVA
      have hBA := bools_of hlA hVA
      clear hVA
      generalize hbs : (List.range ((parts.length : Int) - 1 - 0).toNat).map (fun i => decide (ordS (parts.getD i Str.empty) (parts.getD (i + 1) Str.empty) < 0)) = bs at hBA
      have hbl : bs.length = parts.length - 1 := by rw [← hbs]; simp
      k_steps
      with_reducible rename IsRange _ _ _ _ _ _ _ _ => hR2
      (with_reducible rename (_ ∧ _ ∧ _ ∧ _ ∧ _ ∧ _ ∧ LCg.Off1 _ _) => hz; clear hz)
      refine LCt.CompSrcT.range (by rfl) (by k_asm) (by k_asm) hR2 (small_one (by omega) (by omega) (by omega) (by omega)) (rangeSize_nat _ _) (by rw [PySem.sizeLine_eq]; omega) ?_
      intro gB
      refine restT_of (J := fun i ys => IntsAre ys (placesOf bs i)) places_nil ?turnB ?finB
      case turnB =>
        rintro i v I oI C oC D m₂ ysB h tk E' hi hJ ⟨ti, rfl⟩ hC hx F N off ne
        simp only [Int.zero_add] at hx
        clear ne
        have hi0 : (0 : Int) ≤ (i : Int) := by omega
        have hi1 : (i : Int) < (bs.length : Int) := by omega
        have hi2 : (i : Int) < 2 ^ 63 := by omega
        k_steps
        all_goals (unfold Hold; refine LCg.CompEnd.intro (by assumption) (by assumption) _ ?_ off trivial ⟨rfl, ?_⟩)
        all_goals first | exact places_yes hJ (by assumption) | exact places_no hJ (by assumption) | kcf_all
      case finB =>
        intro ysB hIB
        have hPl := places_len (bs := bs) (n := ((bs.length : Int) - 0).toNat)
        generalize hpq : placesOf bs ((bs.length : Int) - 0).toNat = pl at hIB hPl
        have hPb : pl.length < 2 ^ 20 := by omega
        by_cases hp0 : pl = []
        · subst hp0
          have hDone : Done x parts := ⟨hInv, fun i hi => by
            have h1 := places_none hpq (j := i) (by omega)
            rw [← hbs, List.getD_eq_getElem?_getD, List.getElem?_map, List.getElem?_range (by omega)] at h1
            have h2 := of_decide_eq_false h1
            omega⟩
          k_steps
          dsimp only [WhileStep2]
          k_steps
          have hlL := l1.1
          have hpL : @LE.le Nat _ L' p := by omega
          exact hret parts _ p _ _ _ hDone (by with_reducible assumption) (by omega) (allLt_le hpL hAll) (by assumption) (cb_drop (by assumption) (by kcf_all))
        · have hp1 : 1 ≤ pl.length := List.length_pos_iff.mpr hp0
          k_steps
          with_reducible rename Fr _ _ _ _ => FA
          with_reducible rename News _ _ _ _ => NA
          (with_reducible rename (_ ∧ _ ∧ _ ∧ _ ∧ _ ∧ _ ∧ _ ∧ LCg.Off1 _ _) => hz; clear hz)
          (with_reducible rename (_ ∧ _ ∧ _ ∧ _ ∧ _ ∧ _ ∧ _ ∧ _ ∧ AllLt _ _) => hz; clear hz)
          have NA2 := news_tail (news_tail (news_tail NA))
          clear NA hR hR2 hIB hBA
          have hAm := getD_mem (X := ns.getD (T.fmod (ns.length : Int)).toNat 0) hp1
          generalize hAq : pl.getD ((ns.getD (T.fmod (ns.length : Int)).toNat 0).fmod (pl.length : Int)).toNat 0 = AA at hAm FA ⊢
          obtain ⟨hA1, hA2, hA3⟩ := places_mem (hpq ▸ hAm)
          have hA4 : AA + 1 < (parts.length : Int) := by omega
          clear hAq hAm
          have hz1 : (parts.getD AA.toNat Str.empty).length < 2 ^ 20 := hLen _
          have hz2 : (parts.getD (AA + 1).toNat Str.empty).length < 2 ^ 20 := hLen _
          have hA5 : AA.toNat + 1 < parts.length := by omega
          have hA6 : (AA + 1).toNat = AA.toNat + 1 := by omega
          have hRise : Less (parts.getD AA.toNat Str.empty) (parts.getD (AA + 1).toNat Str.empty) := by
            unfold Less
            rw [hA6]
            rw [← hbs, List.getD_eq_getElem?_getD, List.getElem?_map, List.getElem?_range (by omega)] at hA3
            exact of_decide_eq_true hA3
          have hLynN : Lyn (tl (parts.getD AA.toNat Str.empty ++ parts.getD (AA + 1).toNat Str.empty)) := by
            rw [hA6] at hRise ⊢
            exact hInv.lyn hA5 hRise
          have hNew := hInv.step hA5 (hA6 ▸ hRise)
          rw [← hA6] at hNew
          have hNl : (parts.getD AA.toNat Str.empty ++ parts.getD (AA + 1).toNat Str.empty).length < 2 ^ 20 := by
            have := mem_len (parts := parts.take AA.toNat ++ [parts.getD AA.toNat Str.empty ++ parts.getD (AA + 1).toNat Str.empty] ++ parts.drop (AA.toNat + 2)) (p := parts.getD AA.toNat Str.empty ++ parts.getD (AA + 1).toNat Str.empty) (by simp)
            rw [hNew.2, tl_len] at this
            omega
          k_steps
          with_reducible rename IsRange _ _ _ _ _ _ _ _ => hR3
          refine LCg.CompSrc.range (by rfl) (by k_asm) (by k_asm) hR3 (small_one (by omega) (by omega) (by omega) (by omega)) (rangeSize_nat _ _) (by rw [PySem.sizeLine_eq]; omega) ?_
          intro gF
          refine rest_of (V := fun _ y => y = .bool false) ?turnF ?finF
          case turnF =>
            rintro i v I oI C oC D m₂ ysF h tk E' hi ⟨ti, rfl⟩ hC hx F N off ne
            clear ne
            have hi1 : 1 + (i : Int) < ((parts.getD AA.toNat Str.empty ++ parts.getD (AA + 1).toNat Str.empty).length : Int) := by omega
            k_steps
            · unfold Hold
              refine LCg.CompEnd.intro (by assumption) (by assumption) _ ?_ off trivial ⟨rfl, rfl⟩
              kcf_all
            · exact absurd (less_end hLynN hi1) (by assumption)
          case finF =>
            intro ysF hlF hVF
            have hBF := bools_false hlF hVF
            clear hVF hR3
            with_reducible rename StrsAre _ _ => hSx
            have hS1 := strs_upto hSx hA1
            have hS2 := strs_from hSx (x := AA + 2) (by omega)
            k_steps
            with_reducible rename News _ _ _ _ => NF
            (with_reducible rename (_ ∧ _ ∧ _ ∧ _ ∧ _ ∧ _ ∧ LCg.Off1 _ _) => hz; clear hz)
            refine LSm.any_bools (by k_asm) (news_tail NF) rfl (News.isList NF (.head _)) hBF (fun hX tkX FX NX => ?_)
            rw [any_false]
            clear NF hBF hlF
            k_steps
            with_reducible rename News _ _ _ _ => NZ
            have NR := news_pick NZ
            with_reducible rename StrsAre _ _ => hSN
            with_reducible rename AllLt _ _ => hLD
            have hLD4 : @LT.lt Nat _ (L' + 4) _ := hLD.2.2.2.2.2.1
            clear NZ hLD
            k_steps
            with_reducible rename Fr _ _ _ _ => FZ
            with_reducible rename News _ _ _ _ => NZ2
            have hA7 : (AA + 2).toNat = AA.toNat + 2 := by omega
            rw [hA7] at hSN
            have hSl2 := step_len hA5 (parts.getD AA.toNat Str.empty ++ parts.getD (AA + 1).toNat Str.empty)
            refine step2_next FZ NZ2 ?_ ⟨_, _, _, _, T + 1, _, _, _, _, _, _, _, _, rfl, hNew, hSN, by omega, by omega, by assumption, by assumption, by assumption, eW, hLD4, map_ok (by decide) (by decide), rfl⟩
            omega
  case hJ =>
    refine ⟨signs x, _, _, _, 0, _, _, _, _, _, _, _, _, (signs_length x).symm, Inv.start x, strs_of_carried hCA, by omega, by rw [signs_length]; omega, d1w, d2w, dP, d4w, hLp0, map_ok0 (by with_unfolding_all rfl), rfl⟩
end Mine
end
section
open PySem PySem.W PyProof.Rows
namespace Mine
theorem strs_of_ones {n : Nat} {ys : List Value} (hl : ys.length = n) (h : ∀ (i : Nat) (y : Value), ys[i]? = some y → ∃ z t, y = Value.str z t ∧ z.length = 1) : ∃ ss : List Str, StrsAre ys ss ∧ ss.length = n ∧ ∀ z ∈ ss, z.length = 1 := by
  induction n generalizing ys with
  | zero =>
    cases ys with
    | nil => exact ⟨[], .nil, rfl, fun _ h => nomatch h⟩
    | cons _ _ => simp at hl
  | succ n ih =>
    cases ys with
    | nil => simp at hl
    | cons y r =>
      obtain ⟨z, t, rfl, hz⟩ := h 0 y (by simp)
      obtain ⟨ss, h1, h2, h3⟩ := ih (ys := r) (by simpa using hl) fun i y e => h (i + 1) y (by simpa using e)
      exact ⟨z :: ss, .cons z t h1, by simp [h2], fun w hw => by
        rcases List.mem_cons.mp hw with rfl | hw
        · exact hz
        · exact h3 w hw⟩
theorem news_cells {h₀ h : Heap} {L : Addr} {q0 q1 q2 q3 q4 q5 : Addr × Obj} {r : List (Addr × Obj)} (N : News h₀ L h (q0 :: q1 :: q2 :: q3 :: q4 :: q5 :: r)) : News h₀ L h (q0 :: r) := fun p hp => N p (by
  rcases List.mem_cons.mp hp with rfl | hp
  · exact .head _
  · exact .tail _ (.tail _ (.tail _ (.tail _ (.tail _ (.tail _ hp))))))
theorem cells_len (w : List Int) (f : Int → Int) : ((List.take 5 w).map f ++ List.drop (((List.take 5 w).length : Int)).toNat [4, 84, 1, 0, 2]).length = 5 := by
  simp only [List.length_append, List.length_map, List.length_drop, List.length_cons, List.length_nil, List.length_take]
  omega
theorem pow3 (k : Nat) : (3 : Int) ^ k ≠ 0 := by
  induction k with
  | zero => decide
  | succ k ih => rw [Int.pow_succ]; omega
theorem join_len {ss : List Str} (h : ∀ z ∈ ss, z.length = 1) : (Txt.join (Str.ofString "") ss).length = ss.length := by
  have e0 : Str.ofString "" = (⟨#[]⟩ : Str) := by decide +kernel
  have e1 := eq_of_beq (join_plain_closes ⟨#[]⟩ ss)
  rw [e0, e1]
  clear e1
  induction ss with
  | nil => rfl
  | cons z r ih =>
    rw [PyProof.Rows.join_nil_cons, Str.length_append, ih fun w hw => h w (.tail _ hw), h z (.head _), List.length_cons]
    omega
theorem sum_ones {ss : List Str} (h : ∀ z ∈ ss, z.length = 1) : (ss.map (·.length)).sum = ss.length := by
  induction ss with
  | nil => rfl
  | cons z r ih =>
    rw [List.map_cons, List.sum_cons, ih fun w hw => h w (.tail _ hw), h z (.head _), List.length_cons]
    omega
theorem news_keep {h₀ h : Heap} {L : Addr} {q : Addr × Obj} {xs : List (Addr × Obj)} (k : Nat) (N : News h₀ L h (q :: xs)) : News h₀ L h (q :: xs.drop k) := fun p hp => N p (by
  rcases List.mem_cons.mp hp with rfl | hp
  · exact .head _
  · exact .tail _ (List.mem_of_mem_drop hp))
end Mine
end
section
open PySem PySem.W PyProof.Rows PyProof.V PySem.Spec
namespace Mine
theorem carried_strs {vs : List Value} {ss : List Str} (h : StrsAre vs ss) : CarriedAll vs (ss.map PyData.str) := by
  induction h with
  | nil => exact .nil
  | cons y t _ ih => exact .cons (.str y t) ih
def AllOk (ns : List Str) : Prop := ∀ p ∈ ns, PyData.strOk p = true
theorem canLay_strs : ∀ ns : List Str, AllOk ns → PyData.canLayAll0 (ns.map PyData.str) = true
  | [], _ => rfl
  | a :: r, h => by
    have h1 := h a (.head _)
    have h2 := canLay_strs r fun p hp => h p (.tail _ hp)
    simp [PyData.canLayAll0, PyData.canLay0, h1, h2]
theorem depth_strs : ∀ ns : List Str, PyData.depthAll (ns.map PyData.str) = 0
  | [] => rfl
  | _ :: r => by simp [PyData.depthAll, PyData.depth, depth_strs r]
theorem shaped_strs (ns : List Str) (h : AllOk ns) : SeqAt.shaped (.list (ns.map PyData.str)) = true := by
  simp [SeqAt.shaped, PyData.canLay0, PyData.depth, canLay_strs ns h, depth_strs]
theorem same_strs : ∀ ns : List Str, PySem.Spec.sameAll (ns.map PyData.str) (ns.map PyData.str) = true
  | [] => by simp [PySem.Spec.sameAll]
  | a :: r => by
    simp only [List.map_cons, PySem.Spec.sameAll, PySem.Spec.same, same_strs r]
    simp
section
variable {prog : Program} {w : World} {A : Around} {E : Value → Shared → Prop} {s : Shared} {a b : Addr} {xs ys : List Value} {ns : List Str} {Q : Value → Shared → Prop}
theorem ne_same (ha : s.heap.IsList a xs.toArray) (hb : s.heap.IsList b ys.toArray) (hi : StrsAre xs ns) (hj : StrsAre ys ns) (ho : AllOk ns) (hu : A.units + 64 < cLine) (h : Q (.bool false) s) :
    wpAny (model prog w) A (compareOp .NotEq (.ref a) (.ref b)) Q E s :=
  ne_dataH_same (reads_newData ha (carried_strs hi)) (reads_newData hb (carried_strs hj)) (shaped_strs _ ho) (shaped_strs _ ho) hu (SeqAt.noMix_of_shape (.list .str) rfl _ _ (list_map_has fun _ => rfl) (list_map_has fun _ => rfl)) (by simp only [PySem.Spec.same]; rw [same_strs]; exact h)
end
end Mine
namespace Mine
theorem ok_iff (x : Str) : PyData.strOk x = true ↔ ∀ c ∈ tl x, c < 0x110000 := by
  unfold PyData.strOk
  rw [← Array.all_toList, List.all_eq_true]
  simp
theorem Inv.ok {x : Str} {parts : List Str} (h : Inv x parts) (hx : PyData.strOk x = true) : AllOk parts := fun p hp => by
  rw [ok_iff] at hx ⊢
  intro c hc
  refine hx c ?_
  rw [← h.2]
  exact List.mem_flatten.mpr ⟨tl p, List.mem_map_of_mem hp, hc⟩
theorem ok_item {x : Str} (i : Int) (hx : PyData.strOk x = true) : PyData.strOk (Txt.item x i) = true := by
  rw [ok_iff] at hx ⊢
  intro c hc
  have e : c = (Txt.charAt x i).getD 0 := by simpa [Txt.item, tl] using hc
  subst e
  cases q : Txt.charAt x i with
  | none => simp
  | some c =>
    unfold Txt.charAt at q
    obtain ⟨j, _, hj⟩ := Option.bind_eq_some_iff.mp q
    rw [Option.getD_some]
    exact hx c (by rw [← Array.getElem?_toList] at hj; exact List.mem_of_getElem? hj)
theorem ok_join {ss : List Str} (h : AllOk ss) : PyData.strOk (Txt.join (Str.ofString "") ss) = true := by
  have e0 : Str.ofString "" = (⟨#[]⟩ : Str) := by decide +kernel
  have e1 := eq_of_beq (join_plain_closes ⟨#[]⟩ ss)
  rw [e0, e1]
  clear e1
  induction ss with
  | nil => exact (ok_iff _).mpr (fun c hc => by rw [PyProof.Rows.join_nil] at hc; cases hc)
  | cons z r ih =>
    rw [PyProof.Rows.join_nil_cons, ok_iff, tl_append]
    intro c hc
    rcases List.mem_append.mp hc with hc | hc
    · exact (ok_iff z).mp (h z (.head _)) c hc
    · exact (ok_iff _).mp (ih fun w hw => h w (.tail _ hw)) c hc
end Mine
namespace Mine
theorem strs_of_ones2 {n : Nat} {ys : List Value} (hl : ys.length = n) (h : ∀ (i : Nat) (y : Value), ys[i]? = some y → ∃ z t, y = Value.str z t ∧ z.length = 1 ∧ PyData.strOk z = true) : ∃ ss : List Str, StrsAre ys ss ∧ ss.length = n ∧ (∀ z ∈ ss, z.length = 1) ∧ AllOk ss := by
  induction n generalizing ys with
  | zero =>
    cases ys with
    | nil => exact ⟨[], .nil, rfl, fun _ h => (nomatch h), fun _ h => (nomatch h)⟩
    | cons _ _ => simp at hl
  | succ n ih =>
    cases ys with
    | nil => simp at hl
    | cons y r =>
      obtain ⟨z, t, rfl, hz, ho⟩ := h 0 y (by simp)
      obtain ⟨ss, h1, h2, h3, h4⟩ := ih (ys := r) (by simpa using hl) fun i y e => h (i + 1) y (by simpa using e)
      refine ⟨z :: ss, .cons z t h1, by simp [h2], fun w hw => ?_, fun w hw => ?_⟩
      · rcases List.mem_cons.mp hw with rfl | hw
        · exact hz
        · exact h3 w hw
      · rcases List.mem_cons.mp hw with rfl | hw
        · exact ho
        · exact h4 w hw
end Mine
end
section
open PySem PySem.W PyProof.Rows
namespace Mine
theorem parts_len : ∀ {ps : List (List Nat)}, (∀ p ∈ ps, Lyn p) → ps.length ≤ ps.flatten.length
  | [], _ => Nat.zero_le _
  | p :: r, h => by
    have h1 : 0 < p.length := List.length_pos_iff.mpr (h p (.head _)).1
    have h2 := parts_len (ps := r) fun q hq => h q (.tail _ hq)
    rw [List.flatten_cons, List.length_append, List.length_cons]
    omega
theorem Inv.len {x : Str} {parts : List Str} (h : Inv x parts) : parts.length ≤ x.length := by
  have h1 := parts_len (ps := parts.map tl) fun p hp => by
    obtain ⟨q, hq, rfl⟩ := List.mem_map.mp hp
    exact h.1 q hq
  rw [h.2, tl_len, List.length_map] at h1
  exact h1
def GeAll (parts : List Str) : Prop := ∀ i, i + 1 < parts.length → 0 ≤ ordS (parts.getD i Str.empty) (parts.getD (i + 1) Str.empty)
theorem ge_absurd {parts : List Str} {k : Int} {C : Prop} (h : ¬ GeS (parts.getD k.toNat Str.empty) (parts.getD (k + 1).toNat Str.empty)) (G : GeAll parts) (h0 : 0 ≤ k) (h1 : k + 1 < (parts.length : Int)) : C := by
  have e : (k + 1).toNat = k.toNat + 1 := by omega
  rw [e] at h
  exact absurd (G k.toNat (by omega)) h
theorem le_absurd {x : Str} {parts : List Str} {i : Int} {C : Prop} (h : ¬ LeS (parts.getD (parts.length - 1) Str.empty) (Txt.slice x (some i) none)) (D : Done x parts) (h0 : 0 ≤ i) (h1 : i < (x.length : Int)) : C := by
  refine absurd ?_ h
  show ordL _ (tl _) ≤ 0
  rw [tl_slice h0 (by omega)]
  exact D.last (by omega)
section
variable {prog : Program} {w : World} {A : Around} {E : Value → Shared → Prop} {s : Shared} {value slice : PySem.Expr} {l : Addr} {vs : List Value} {ws : List Str} {u : Tok} {Q : Value → Shared → Prop}
theorem last_item (hl : s.heap.IsList l vs.toArray) (hw : StrsAre vs ws) (h1 : 1 ≤ ws.length) (h : ∀ t', Q (.str (ws.getD (ws.length - 1) Str.empty) t') s)
    (hs : subscripted slice false (.ref l) (.int (-1) u) = operate [.ref l, .int (-1) u] (getItem (.ref l) (.int (-1) u)) := by with_unfolding_all rfl) (hg : ∀ r, letTemporaryGo value (.ref l) r = pure () := by intro _; with_unfolding_all rfl) :
    wpAny (model prog w) A (subscriptTail value slice (.ref l) (.int (-1) u)) Q E s := by
  obtain ⟨t', e⟩ := hw.get (ws.length - 1) (ws.getD (ws.length - 1) Str.empty) (by rw [List.getD_eq_getElem?_getD, List.getElem?_eq_getElem (by omega)]; rfl)
  have hn : vs.length = ws.length := hw.length
  refine subscriptTail_builtin hl.typeIs slot_list_getitem.lookup (wpAny_getItem_list_neg (x := .str _ t') hl (by decide) (by rw [List.size_toArray]; omega) (by decide) ?_ (h t')) hs hg
  rw [List.size_toArray]
  have e2 : (-1 + (vs.length : Int)).toNat = ws.length - 1 := by omega
  rw [e2]
  simpa using e
theorem strs_lenK {h₀ : Heap} {L : Addr} {news : List (Addr × Obj)} {c : Nat} (N : News h₀ L s.heap news) (hm : (l, W.listOf vs.toArray c) ∈ news) (hw : StrsAre vs ws) (hf : ws.length < 2 ^ 62) (h : Q (.int (ws.length : Nat) (s.toks + 1)) { s with toks := s.toks + 1 + 1 }) :
    wpAny (model prog w) A (call (.builtin "len") [.ref l]) Q E s :=
  KM.len_K N hm (by rw [List.size_toArray]; exact hw.length) hf h
end
end Mine
end
section
open PySem PySem.W PyProof.Rows
namespace Mine
local macro_rules | `(tactic| walk_at "CompSrc") => `(tactic| ((with_reducible show LCg.CompSrc _ _ _ _ _ _ _ _ (PySem.Str.ofString "at") _ _ _ _ _); refine Hold.out ?_))
local macro_rules | `(tactic| walk_at "CompSrc") => `(tactic| ((with_reducible show LCg.CompSrc _ _ _ _ _ _ _ _ (PySem.Str.ofString "cut") _ _ _ _ _); refine Hold.out ?_))
local macro_rules | `(tactic| walk_at "subscriptTail Name Slice ref ref") => `(tactic| (k_here; (with_reducible show wpAny _ _ (subscriptTail (PySem.Expr.Name (PySem.Str.ofString "usual") _) (PySem.Expr.Slice _ _ none _) (Value.ref _) (Value.ref _)) _ _ _); k_dflt (refine' kmk_slice_ints ?F ?N ?l ?p ?q ?i ?m ?c ?_ ?s ?t ?z; (case F => k_asm); (case N => k_asm); (case l => kmk_list); (case p => kmk_part); (case q => kmk_part); (case i => l_ints); (case m => exact kmk_from (by l_ints) (by omega)); (case c => kmk_len); (case s => with_unfolding_all rfl); (case t => kmk_pure); (case z => kmk_size)); intro D' ws' h' F' N' l1 hI' hC' hL'; (try simp only [Int.reduceNeg, Int.neg_neg, Int.reduceToNat] at hI' hC' hL'); (try k_lt l1); (try k_sweep)))
local macro_rules | `(tactic| walk_at "subscriptTail Name Slice ref ref") => `(tactic| (k_here; (with_reducible show wpAny _ _ (subscriptTail (PySem.Expr.Name (PySem.Str.ofString "cells") _) (PySem.Expr.Slice _ _ none _) (Value.ref _) (Value.ref _)) _ _ _); k_dflt (refine' kmk_slice_ints ?F ?N ?l ?p ?q ?i ?m ?c ?_ ?s ?t ?z; (case F => k_asm); (case N => k_asm); (case l => kmk_list); (case p => kmk_part); (case q => kmk_part); (case i => l_ints); (case m => exact kmk_from (by l_ints) (by omega)); (case c => kmk_len); (case s => with_unfolding_all rfl); (case t => kmk_pure); (case z => kmk_size)); intro D' ws' h' F' N' l1 hI' hC' hL'; (try simp only [Int.reduceNeg, Int.neg_neg, Int.reduceToNat] at hI' hC' hL'); (try k_lt l1); (try k_sweep)))
local macro_rules | `(tactic| walk_at "call ref") => `(tactic| ((with_reducible show wpAny _ _ (call (Value.ref 155) [_, Value.str _ _, Value.ref _]) _ _ _); refine Hold.out ?_))
local macro_rules | `(tactic| walk_at "call ref") => `(tactic| (k_here; (with_reducible show wpAny _ _ (call (Value.ref 114) [_, Value.ref _]) _ _ _); k_dflt ((refine' lge_call ?k1 ?k2 ?k3 ?k4 ?k5 ?k6 ?k7 ?k8 ?k9 ?k10 (fun hc' t' h' tk' F' N' => ?_) (fun hc' f' d' h' tk' F' N' => ?_)); (case k1 => k_asm); (case k2 => k_asm); (case k3 => k_asm); (case k4 => k_asm); (case k5 => k_asm); (case k6 => first | exact rfl | assumption); (case k7 => first | assumption | exact LenOk.at (by assumption) _ | omega); (case k8 => first | assumption | exact LenOk.at (by assumption) _ | omega); (case k9 => ktr_room); (case k10 => ktr_units); (all_goals (try dsimp only)); (all_goals (try (exact ge_absurd (by assumption) (by assumption) (by omega) (by omega)))); (all_goals (try k_fold)))))
local macro_rules | `(tactic| walk_at "call ref") => `(tactic| (k_here; (with_reducible show wpAny _ _ (call (Value.ref 128) [_, Value.ref _]) _ _ _); k_dflt ((refine' lle_call ?k1 ?k2 ?k3 ?k4 ?k5 ?k6 ?k7 ?k8 ?k9 ?k10 (fun hc' t' h' tk' F' N' => ?_) (fun hc' f' d' h' tk' F' N' => ?_)); (case k1 => k_asm); (case k2 => k_asm); (case k3 => k_asm); (case k4 => k_asm); (case k5 => k_asm); (case k6 => first | exact rfl | assumption); (case k7 => first | assumption | exact LenOk.at (by assumption) _ | omega); (case k8 => first | assumption | exact LenOk.at (by assumption) _ | omega); (case k9 => ktr_room); (case k10 => ktr_units); (all_goals (try dsimp only)); (all_goals (try (exact le_absurd (by assumption) (by assumption) (by omega) (by omega)))); (all_goals (try k_fold)))))
local macro_rules | `(tactic| walk_at "call builtin:len") => `(tactic| (k_here; (with_reducible show wpAny _ _ (call (Value.builtin "len") [Value.ref _]) _ _ _); k_dflt ((refine' strs_lenK ?a ?b ?c ?d ?_); (case a => k_asm); (case b => k_mem); (case c => with_reducible assumption); (case d => omega)); (try dsimp only); (try k_fold)))
local macro_rules | `(tactic| walk_at "InvEndN") => `(tactic| k_dflt ksr_close)
local macro_rules | `(tactic| walk_at "subscriptTail") => `(tactic| (k_here; (with_reducible show wpAny _ _ (subscriptTail _ _ (Value.ref _) (Value.int (-1) _)) _ _ _); k_dflt ((refine' last_item ?l ?w ?n ?_); (case l => first | exact News.isList (by k_asm) (by k_mem) | is_list); (case w => k_asm); (case n => assumption)); intro t'; (try k_fold)))
local macro_rules | `(tactic| walk_at "call ref") => `(tactic| (k_here; (with_reducible show wpAny _ _ (call (Value.ref 58) [Value.str _ _]) _ _ _); k_dflt ((refine' isfail_str ?k1 ?k2 ?k3 ?k4 ?k5 ?k6 ?k9 ?k10 (fun h' tk' F' N' => ?_)); (case k1 => k_asm); (case k2 => k_asm); (case k3 => k_asm); (case k4 => k_asm); (case k5 => k_asm); (case k6 => first | exact rfl | assumption); (case k9 => ktr_room); (case k10 => ktr_units); (try dsimp only); (try k_fold))))
local macro_rules | `(tactic| walk_at "call ref") => `(tactic| (k_here; (with_reducible show wpAny _ _ (call (Value.ref 58) [Value.ref _]) _ _ _); k_dflt ((refine' isfail_ref ?k1 ?k2 ?k3 ?k4 ?k5 ?k6 ?k9 ?k10 (fun h' tk' F' N' => ?_)); (case k1 => k_asm); (case k2 => k_asm); (case k3 => k_asm); (case k4 => k_asm); (case k5 => k_asm); (case k6 => first | exact rfl | assumption); (case k9 => ktr_room); (case k10 => ktr_units); (try dsimp only); (try k_fold))))
local macro_rules | `(tactic| walk_at "compareOp NotEq ref ref") => `(tactic| ((with_reducible show wpAny _ _ (compareOp CmpOp.NotEq (Value.ref _) (Value.ref _)) _ _ _); refine Hold.out ?_))
local macro_rules | `(tactic| walk_at "pyIter ref") => `(tactic| ((with_reducible show wpAny _ _ (pyIter (Value.ref _)) (fun it s₂ => LoopAtV _ _ _ _ _ _ _ _ _ it s₂) _ _); refine Hold.out ?_))
set_option maxRecDepth 100000 in
set_option maxHeartbeats 8000000 in
theorem main : PySem.Challenge.rw_xm0943_01.Holds := hd (by
  k_go0
  (all_goals try k_fold)
  k_steps
  unfold Hold
  with_reducible rename IsRange _ _ _ _ _ _ _ _ => hR
  with_reducible rename IntsAre _ (_ ++ _) => hC
  with_reducible rename News _ _ _ _ => NC
  have NC2 := news_cells NC
  have hCl := cells_len _ _ ▸ IntsAre.length hC
  generalize hcq : (List.map (fun k' => if k' < 0 then -k' else k') _ ++ List.drop _ [(4 : Int), 84, 1, 0, 2]) = cs at hC hR ⊢
  have hc5 : cs.length = 5 := by rw [← IntsAre.length hC]; exact hCl
  clear hcq NC
  have hn7 : 0 ≤ (cs.getD (Int.toNat 0) 0).fmod 7 := Int.fmod_nonneg_of_pos _ (by decide)
  have hn8 : (cs.getD (Int.toNat 0) 0).fmod 7 < 7 := Int.fmod_lt_of_pos _ (by decide)
  generalize (cs.getD (Int.toNat 0) 0).fmod 7 = n7 at hn7 hn8 hR ⊢
  refine LCg.CompSrc.range (by rfl) (by k_asm) NC2 hR (small_one (by omega) (by omega) (by omega) (by omega)) (rangeSize_nat _ _) (by rw [PySem.sizeLine_eq]; omega) ?_
  intro gW
  refine rest_of (V := fun _ y => ∃ z t, y = Value.str z t ∧ z.length = 1 ∧ PyData.strOk z = true) ?turnW ?finW
  case turnW =>
    rintro i v I oI C oC D m₂ ysW h tk E' hi ⟨ti, rfl⟩ hCn hx F N off ne
    clear ne
    simp only [Int.zero_add] at hx
    have hi7 : i < 7 := by omega
    have hp3 : (3 : Int) ^ ((i : Int)).toNat ≠ 0 := pow3 _
    k_steps
    · exact absurd (by assumption) hp3
    · refine LCg.CompEnd.intro F N _ ?s1 off ?s2 ?s3
      case s2 => trivial
      case s3 => exact ⟨rfl, _, _, rfl, by assumption, ok_item _ (by decide +kernel)⟩
      case s1 => kcf_all
  case finW =>
    intro ysW hlW hVW
    obtain ⟨ss, hSS, hsl, hs1, hsO⟩ := strs_of_ones2 hlW hVW
    clear hVW
    k_steps
    with_reducible rename News _ _ _ _ => NJ
    have NJ2 := news_tail NJ
    refine join_listW (News.isList NJ (.head _)) hSS (by decide +kernel) (by rw [sum_ones hs1]; omega) (fun t' k => ?_)
    have hJl := join_len hs1
    rw [hsl] at hJl
    have hOk := ok_join hsO
    generalize Txt.join (Str.ofString "") ss = W at hJl hOk ⊢
    have hW1 : 1 ≤ W.length := by omega
    have hW7 : W.length ≤ 7 := by omega
    clear hJl hSS hsl hs1 hsO hlW NJ hR
    k_steps
    unfold Hold
    with_reducible rename News _ _ _ _ => NA
    have NB : News _ _ _ [_, _, _, _, _] := news_keep 17 NA
    with_reducible rename IntsAre _ (List.drop 2 cs) => hD2
    have hdl : (List.drop 2 cs).length = 3 := by rw [List.length_drop]; omega
    refine joined_call (by k_asm) (by k_asm) (by k_asm) NB (by k_asm) rfl hD2 (by omega) (by omega) hW1 (by omega) (by ktr_room) (by ktr_units) (fun parts ys p k h1 tk1 hDone hS hlp hAp F1 N1 => ?_)
    dsimp only
    clear NA NB
    have N2 : News _ _ _ [_, _, _, _, _] := news_keep 1 N1
    clear N1
    simp only [AllLt, and_true] at hAp
    k_steps
    unfold Hold
    with_reducible rename News _ _ _ _ => NE
    refine joined_call (by k_asm) (by k_asm) (by k_asm) NE (by k_asm) rfl (.cons 0 _ .nil) (by decide) (by decide) hW1 (by omega) (by ktr_room) (by ktr_units) (fun parts2 ys2 p2 k2 h2 tk2 hDone2 hS2 hlp2 hAp2 F2 N3 => ?_)
    dsimp only
    have hEq := Done.unique hDone2 hDone
    subst hEq
    clear NE
    k_steps
    unfold Hold
    have hSl : ys.length = parts2.length := strs_len hS
    have hPn : 1 ≤ parts2.length := hDone2.1.ne hW1
    have hPb : parts2.length < 2 ^ 20 := by have := hDone2.1.len; omega
    have hLen : LenOk parts2 := hDone2.1.lenOk (by omega)
    have hGe : GeAll parts2 := hDone2.2
    refine ne_same (News.isList N3 (.head _)) (News.isList N3 (.tail _ (.tail _ (.head _)))) hS2 hS (hDone2.1.ok hOk) (by ktr_units) ?_
    have N4 := news_tail (news_tail N3)
    clear N3 hAp2 hS2 hlp2
    k_steps
    unfold Hold
    k_search (fun _ => True)
    · k_steps
    · k_steps
      unfold Hold
      with_reducible rename IsRange _ _ _ _ _ _ _ _ => hR4
      refine LCg.CompSrc.range (by rfl) (by k_asm) (by k_asm) hR4 (small_one (by omega) (by omega) (by omega) (by omega)) (rangeSize_nat _ _) (by rw [PySem.sizeLine_eq]; omega) ?_
      intro gL
      refine rest_of (V := fun _ y => y = .bool false) ?turnL ?finL
      case turnL =>
        rintro i v I oI C oC D m₂ ysL h tk E' hi ⟨ti, rfl⟩ hCn hx F N off ne
        clear ne
        simp only [Int.zero_add] at hx
        have hi0 : (0 : Int) ≤ (i : Int) := by omega
        have hi1 : (i : Int) < (W.length : Int) := by omega
        k_steps
        refine LCg.CompEnd.intro (by assumption) (by assumption) _ ?_ off trivial ⟨rfl, rfl⟩
        kcf_all
      case finL =>
        intro ysL hlL hVL
        have hBL := bools_false hlL hVL
        clear hVL hR4
        k_steps
        with_reducible rename News _ _ _ _ => NL
        refine LSm.any_bools (by k_asm) (news_tail NL) rfl (News.isList NL (.head _)) hBL (fun hX tkX FX NX => ?_)
        rw [any_false]
        clear hBL
        k_steps)
end Mine
end
theorem PySem.Challenge.cw_xm0943_01_holds : PySem.Challenge.rw_xm0943_01.Holds :=
  Mine.main
