import PyProof.Rows.All
import Wide.All
import OpenK.AllK
import Wide.FinOn
import PySem.Challenge.RW_xm0949_01
open PySem PySem.W PyProof.Rows
set_option Elab.async false
set_option rowWalk.seconds 0
namespace Mine
section
open PySem PySem.W PyProof.Rows
def vw : PySem.Program := PySem.W.view PySem.Challenge.pw_xm0949_01 [1, 2, 3, 4, 5, 6, 7, 8, 9, 10, 11, 12, 13, 15, 16, 17, 18, 19, 20, 21, 22, 24, 25, 26, 27, 28, 29, 30, 32, 33, 34, 35, 36, 38, 40, 41]
theorem left_of {p q : PySem.Program} {loose : List PySem.Str} {Xt : Shared → Bool} {α : Type} {Yf : Shared → α} {Ya : World → α} {N : Nat} {g0 : Bool} {H₀ : Params → Heap} {gs₀ : Array GenState} {d₀ : Drawn} {k₀ : Nat}
    (open_ : ∀ w : World, (fencedOpening treeTable p w N).map (fun s => (s.heap, s.gens, s.drawn, s.toks)) = some (H₀ w.params, gs₀, d₀, k₀))
    (run : ∀ (w : World) (os : OsState), (topFrom treeTable p w N ⟨H₀ w.params, gs₀, d₀, k₀, os⟩).map (fun s => (openSeen q loose (importedModules p.main.body) Xt g0 s, Yf s)) = some (openGood q loose, Ya w)) : LeftO p q loose Xt Yf Ya N g0 := fun w => by
  obtain ⟨⟨h, gs, d, k, os⟩, e, e'⟩ := Option.map_eq_some_iff.mp (open_ w)
  obtain ⟨rfl, rfl, rfl, rfl⟩ : h = H₀ w.params ∧ gs = gs₀ ∧ d = d₀ ∧ k = k₀ := by simpa using e'
  unfold openEnds
  rw [e]
  exact run w os
local macro_rules | `(tactic| o_head $H) => `(tactic| (refine holds_open (q := vw) (loose := [PySem.Str.ofString "SnobolError"]) (Xt := fun s => xlAt vw [] s && recOk (RowW.records (PySem.Challenge.rw_xm0949_01.row.toRowW)) s) (XP := XL vw []) (Yf := Hook.obs $H) (Ya := Hook.val $H) (YP := Hook.says $H) (N := 4214) ?hl (Hook.of $H) (Hook.keeps $H) (fun s e => xl_of s (Bool.and_eq_true_iff.mp e).1) XL.keeps (by rfl) (by rfl) (by rfl) (fun s e => recFacts_of (Bool.and_eq_true_iff.mp e).2) (by rfl) (by first | assumption | decide +kernel) (by decide +kernel) ⟨rfl, rfl, rfl, rfl, rfl, by decide +kernel⟩ ?hw ?hc; (case hl => (refine left_of (boot_open (by kernel_rfl) (by decide) (by intro _; kernel_rfl)) ?_; intro w os; unfold topFrom; rw [PySem.W.Fast.te14082659384304107361, PySem.W.Fast.te4187177175401517315, PySem.W.Fast.te14364793385576792824]; kernel_rfl))))
set_option maxRecDepth 100000 in
set_option maxHeartbeats 8000000 in
open_top hd for PySem.Challenge.rw_xm0949_01
end
end Mine
namespace Mine
section
open PySem PySem.Spec PySem.Calls PySem.W PyProof.Rows
local macro_rules | `(tactic| k_room) => `(tactic| ktr_room)
local macro_rules | `(tactic| k_get) => `(tactic| assumption)
theorem cons3 {p q r : Addr × Obj} {news : List (Addr × Obj)} (hp : p ∈ news) (hq : q ∈ news) (hr : r ∈ news) : ∀ z ∈ p :: q :: r :: news, z ∈ news := by
  intro z hz
  rcases List.mem_cons.mp hz with rfl | hz
  · exact hp
  rcases List.mem_cons.mp hz with rfl | hz
  · exact hq
  rcases List.mem_cons.mp hz with rfl | hz
  · exact hr
  exact hz
theorem gt_ar {i j : Int} {b : Bool} (h : (decide (0 < [i, j].getD (Int.toNat 0) 0 - [i, j].getD (Int.toNat 1) 0) == (Str.ofString "GT" == Str.ofString "GT")) = b) : (i > j) ↔ (b = true) := by
  have e : (Str.ofString "GT" == Str.ofString "GT") = true := by decide
  rw [e] at h
  have e2 : (0 < [i, j].getD (Int.toNat 0) 0 - [i, j].getD (Int.toNat 1) 0) ↔ i > j := by
    show (0 < i - j) ↔ i > j
    omega
  rw [← e2]
  cases b <;> simp_all
section
variable {w : World} {mean : ExcName → Option Value} {mg mb : Str → Option Value} {dp un : Nat} {gd : Option (List Code)} {cn : Str} {cs : Scope} {a : Addr} {ccd : Value} {cl : List (Str × Addr)} {outer : List Env} {A₀ : Around} {base h₀ : Heap} {L : Addr} {m : Str → Option Value} {s : Shared} {Q E : Value → Shared → Prop} {x d l : Addr} {es : List DictEntry} {n : Nat} {i j : Int} {ti tj tw : Tok}
set_option maxRecDepth 100000 in
set_option maxHeartbeats 8000000 in
theorem gt_core {rest : List (Addr × Obj)} (hB : Below A₀ base outer h₀) (hF : Fr h₀ L s.heap m) (hX : (hd.heap_39 w.params).In h₀) (hT : Top vw (looseW vw [Str.ofString "SnobolError"]) mean mg mb h₀) (hcs : cs.kind = .function) (hdp : dp + 10 < recursionLimit) (hun : un + 80 < cLine)
  (hN : News h₀ L s.heap ((l, W.listOf #[.int i ti, .int j tj] 0) :: (x, instObj 286 d) :: (d, dictOf es n) :: rest)) (hW : getL (Str.ofString "width") es = some (some (.int 32 tw)))
  (hyes : i > j → ∀ t h' tk', Fr h₀ L h' m → News h₀ L h' ((l, W.listOf #[.int i ti, .int j tj] 0) :: (x, instObj 286 d) :: (d, dictOf es n) :: rest) → Q (.str (Str.ofString "") t) { s with heap := h', toks := tk' })
  (hno : ¬ i > j → ∀ q dq h' tk', Fr h₀ L h' m → News h₀ L h' ((q, instObj 47 dq) :: (dq, dictOf [] 0) :: (l, W.listOf #[.int i ti, .int j tj] 0) :: (x, instObj 286 d) :: (d, dictOf es n) :: rest) → Q (.ref q) { s with heap := h', toks := tk' }) :
  wpAny (model PySem.Challenge.rw_xm0949_01.row.prog w) (ktrTop dp un gd cn cs L a ccd cl outer) (call (.ref 261) [.ref x, .ref l]) Q E s := by
  revert hX
  k_fill
  intro hX
  refine wpAny_call ?_
  k_dflt cell_enter
  k_steps
  · (rename (_ == _) = true => ha)
    (refine hyes ((gt_ar ha).mpr rfl) _ _ _ ?e2 ?e3; (case e2 => k_asm); (case e3 => refine' cb_drop ?cbN ?cbS; (case cbN => assumption); (case cbS => kcj_all)))
  · (rename (_ == _) = false => ha)
    (refine' hno (fun hc => absurd ((gt_ar ha).mp hc) (by decide)) _ _ _ _ ?e2 ?e3; (case e2 => k_asm); (case e3 => refine' cb_drop ?cbN ?cbS; (case cbN => assumption); (case cbS => kcj_all)))
theorem gt_use {news : List (Addr × Obj)} (hB : Below A₀ base outer h₀) (hF : Fr h₀ L s.heap m) (hX : (hd.heap_39 w.params).In h₀) (hT : Top vw (looseW vw [Str.ofString "SnobolError"]) mean mg mb h₀) (hcs : cs.kind = .function) (hdp : dp + 10 < recursionLimit) (hun : un + 80 < cLine)
  (hN : News h₀ L s.heap news) (hl : (l, W.listOf #[.int i ti, .int j tj] 0) ∈ news) (hx : (x, instObj 286 d) ∈ news) (hd : (d, dictOf es n) ∈ news) (hW : getL (Str.ofString "width") es = some (some (.int 32 tw)))
  (hyes : i > j → ∀ t h' tk', Fr h₀ L h' m → News h₀ L h' news → Q (.str (Str.ofString "") t) { s with heap := h', toks := tk' })
  (hno : ¬ i > j → ∀ q dq h' tk', Fr h₀ L h' m → News h₀ L h' ((q, instObj 47 dq) :: (dq, dictOf [] 0) :: news) → Q (.ref q) { s with heap := h', toks := tk' }) :
  wpAny (model PySem.Challenge.rw_xm0949_01.row.prog w) (ktrTop dp un gd cn cs L a ccd cl outer) (call (.ref 261) [.ref x, .ref l]) Q E s :=
  gt_core (rest := news) hB hF hX hT hcs hdp hun (cb_drop hN (cons3 hl hx hd)) hW
    (fun hc t h' tk' F N => hyes hc t h' tk' F (cb_drop N fun p hp => .tail _ (.tail _ (.tail _ hp))))
    (fun hc q dq h' tk' F N => hno hc q dq h' tk' F (cb_drop N fun p hp => by
      rcases List.mem_cons.mp hp with rfl | hp
      · exact .head _
      rcases List.mem_cons.mp hp with rfl | hp
      · exact .tail _ (.head _)
      exact .tail _ (.tail _ (.tail _ (.tail _ (.tail _ hp))))))
end
end
end Mine
namespace Mine
section
open PySem PySem.Spec PySem.Calls PySem.W PyProof.Rows
theorem pow31 : (1 * 2 ^ (32 - 1 : Int).toNat : Int) = 2147483648 := by decide
theorem chkA {i : Int} (h0 : -2000 ≤ i) : -(1 * 2 ^ (32 - 1 : Int).toNat : Int) ≤ i := by rw [pow31]; omega
theorem chkB {i : Int} (h1 : i ≤ 2000) : i < (1 * 2 ^ (32 - 1 : Int).toNat : Int) := by rw [pow31]; omega
local macro_rules | `(tactic| k_room) => `(tactic| ktr_room)
local macro_rules | `(tactic| k_get) => `(tactic| assumption)
local macro_rules | `(tactic| walk_at "exec Raise some none") => `(tactic| (exfalso; first | omega | exact absurd (chkA (by assumption)) (by assumption) | exact absurd (chkB (by assumption)) (by assumption)))
local macro_rules | `(tactic| walk_at "binaryOp FloorDiv int int") => `(tactic| ((simp (disch := omega) only [if_neg]); walk_at "binaryOp FloorDiv int int"))
section
variable {w : World} {mean : ExcName → Option Value} {mg mb : Str → Option Value} {dp un : Nat} {gd : Option (List Code)} {cn : Str} {cs : Scope} {a : Addr} {ccd : Value} {cl : List (Str × Addr)} {outer : List Env} {A₀ : Around} {base h₀ : Heap} {L : Addr} {m : Str → Option Value} {s : Shared} {Q E : Value → Shared → Prop} {x d l : Addr} {es : List DictEntry} {n : Nat} {i j : Int} {ti tj tw : Tok}
theorem div_no {i j : Int} (h0 : 0 ≤ i) (h1 : 0 < j) (h : (decide (i < 0) == decide (j < 0)) = false) : False := by
  rw [decide_eq_false (by omega), decide_eq_false (by omega)] at h
  exact absurd h (by decide)
theorem div_ar {i j : Int} (h0 : 0 ≤ i) (h1 : 0 < j) : Int.fdiv (if i < 0 then -i else i) (if j < 0 then -j else j) = i / j := by
  rw [if_neg (by omega), if_neg (by omega), Int.fdiv_eq_ediv_of_nonneg _ (by omega)]
set_option maxRecDepth 100000 in
set_option maxHeartbeats 8000000 in
theorem div_use {news : List (Addr × Obj)} (h0 : 0 ≤ i) (h2 : i ≤ 2000) (h1 : 0 < j) (h3 : j ≤ 2000) (hB : Below A₀ base outer h₀) (hF : Fr h₀ L s.heap m) (hX : (hd.heap_39 w.params).In h₀) (hT : Top vw (looseW vw [Str.ofString "SnobolError"]) mean mg mb h₀) (hcs : cs.kind = .function) (hdp : dp + 2 < recursionLimit) (hun : un + 20 < cLine)
  (hN : News h₀ L s.heap news)
  (hret : ∀ t h' tk', Fr h₀ L h' m → News h₀ L h' news → Q (.int (i / j) t) { s with heap := h', toks := tk' }) :
  wpAny (model PySem.Challenge.rw_xm0949_01.row.prog w) (ktrTop dp un gd cn cs L a ccd cl outer) (call (.ref 191) [.int i ti, .int j tj]) Q E s := by
  revert hX
  k_fill
  intro hX
  refine wpAny_call ?_
  k_dflt cell_enter
  k_steps
  · rw [Int.fdiv_eq_ediv_of_nonneg _ (by omega)]
    (refine hret _ _ _ ?e2 ?e3; (case e2 => k_asm); (case e3 => k_asm))
  · exfalso
    (rename (_ == _) = false => ha)
    exact div_no h0 h1 ha
set_option maxRecDepth 100000 in
set_option maxHeartbeats 8000000 in
theorem chk_use {news : List (Addr × Obj)} (h0 : -2000 ≤ i) (h1 : i ≤ 2000) (hB : Below A₀ base outer h₀) (hF : Fr h₀ L s.heap m) (hX : (hd.heap_39 w.params).In h₀) (hT : Top vw (looseW vw [Str.ofString "SnobolError"]) mean mg mb h₀) (hcs : cs.kind = .function) (hdp : dp + 3 < recursionLimit) (hun : un + 30 < cLine)
  (hN : News h₀ L s.heap news)
  (hret : ∀ t h' tk', Fr h₀ L h' m → News h₀ L h' news → Q (.int i t) { s with heap := h', toks := tk' }) :
  wpAny (model PySem.Challenge.rw_xm0949_01.row.prog w) (ktrTop dp un gd cn cs L a ccd cl outer) (call (.ref 156) [.int i ti, .int 32 tw]) Q E s := by
  revert hX
  k_fill
  intro hX
  refine wpAny_call ?_
  k_dflt cell_enter
  k_steps
  (refine hret _ _ _ ?e2 ?e3; (case e2 => k_asm); (case e3 => k_asm))
end
end
end Mine
namespace Mine
section
open PySem PySem.Spec PySem.Calls PySem.W PyProof.Rows
local macro_rules | `(tactic| k_room) => `(tactic| ktr_room)
local macro_rules | `(tactic| k_get) => `(tactic| assumption)
local macro_rules | `(tactic| walk_at "call ref") => `(tactic| (k_here; (with_reducible show wpAny _ _ (call (Value.ref 191) [Value.int _ _, Value.int _ _]) _ _ _); k_dflt (refine' div_use ?z0 ?z1 ?z2 ?z3 ?k1 ?k2 ?k3 ?k4 ?k5 ?k6 ?k7 ?k8 ?_; (case z0 => omega); (case z1 => omega); (case z2 => omega); (case z3 => omega); (case k1 => k_asm); (case k2 => k_asm); (case k3 => k_asm); (case k4 => k_asm); (case k5 => first | exact rfl | assumption); (case k6 => ktr_room); (case k7 => ktr_units); (case k8 => k_asm); k_whole); intro t9 h9 tk9 F9 N9; (try dsimp only); (try k_sweep); (try k_fold)))
local macro_rules | `(tactic| walk_at "call ref") => `(tactic| (k_here; (with_reducible show wpAny _ _ (call (Value.ref 156) [Value.int _ _, Value.int _ _]) _ _ _); k_dflt (refine' chk_use ?z0 ?z1 ?k1 ?k2 ?k3 ?k4 ?k5 ?k6 ?k7 ?k8 ?_; (case z0 => omega); (case z1 => omega); (case k1 => k_asm); (case k2 => k_asm); (case k3 => k_asm); (case k4 => k_asm); (case k5 => first | exact rfl | assumption); (case k6 => ktr_room); (case k7 => ktr_units); (case k8 => k_asm); k_whole); intro t9 h9 tk9 F9 N9; (try dsimp only); (try k_sweep); (try k_fold)))
theorem getD0 {i j : Int} : [i, j].getD (Int.toNat 0) 0 = i := rfl
theorem getD1 {i j : Int} : [i, j].getD (Int.toNat 1) 0 = j := rfl
local macro_rules | `(tactic| walk_at "call ref") => `(tactic| ((simp only [getD0, getD1]); walk_at "call ref"))
local macro_rules | `(tactic| walk_at "eval Call") => `(tactic| (k_here; (with_reducible show wpAny _ _ (eval (Expr.Call (Expr.Name (PySem.Str.ofString "divided") _) _ [] _) _) _ _ _); refine Call_ ?_))
section
variable {w : World} {mean : ExcName → Option Value} {mg mb : Str → Option Value} {dp un : Nat} {gd : Option (List Code)} {cn : Str} {cs : Scope} {a : Addr} {ccd : Value} {cl : List (Str × Addr)} {outer : List Env} {A₀ : Around} {base h₀ : Heap} {L : Addr} {m : Str → Option Value} {s : Shared} {Q E : Value → Shared → Prop} {x d l : Addr} {es : List DictEntry} {n : Nat} {i j : Int} {ti tj tw to : Tok}
set_option maxRecDepth 100000 in
set_option maxHeartbeats 8000000 in
theorem rem_core {rest : List (Addr × Obj)} (h0 : 0 ≤ i) (h1 : i ≤ 1000) (h2 : 0 < j) (h3 : j ≤ 11) (hq0 : 0 ≤ i / j) (hq1 : i / j ≤ 1000) (hp0 : 0 ≤ i - j * (i / j)) (hp1 : i - j * (i / j) < j) (hB : Below A₀ base outer h₀) (hF : Fr h₀ L s.heap m) (hX : (hd.heap_39 w.params).In h₀) (hT : Top vw (looseW vw [Str.ofString "SnobolError"]) mean mg mb h₀) (hcs : cs.kind = .function) (hdp : dp + 10 < recursionLimit) (hun : un + 80 < cLine)
  (hN : News h₀ L s.heap ((l, W.listOf #[.int i ti, .int j tj] 0) :: (x, instObj 286 d) :: (d, dictOf es n) :: rest)) (hW : getL (Str.ofString "width") es = some (some (.int 32 tw)))
  (hret : ∀ t h' tk', Fr h₀ L h' m → News h₀ L h' ((l, W.listOf #[.int i ti, .int j tj] 0) :: (x, instObj 286 d) :: (d, dictOf es n) :: rest) → Q (.int (i - j * (i / j)) t) { s with heap := h', toks := tk' }) :
  wpAny (model PySem.Challenge.rw_xm0949_01.row.prog w) (ktrTop dp un gd cn cs L a ccd cl outer) (call (.ref 268) [.ref x, .ref l]) Q E s := by
  revert hX
  k_fill
  intro hX
  refine wpAny_call ?_
  k_dflt cell_enter
  k_steps
  all_goals (refine hret _ _ _ ?e2 ?e3; (case e2 => k_asm); (case e3 => refine' cb_drop ?cbN ?cbS; (case cbN => assumption); (case cbS => kcj_all)))
set_option maxRecDepth 100000 in
set_option maxHeartbeats 8000000 in
theorem bin_core {rest : List (Addr × Obj)} (h0 : 0 ≤ i) (h1 : i ≤ 100) (h2 : 0 ≤ j) (h3 : j ≤ 100) (hp0 : 0 ≤ i * j) (hp1 : i * j ≤ 1000) (hB : Below A₀ base outer h₀) (hF : Fr h₀ L s.heap m) (hX : (hd.heap_39 w.params).In h₀) (hT : Top vw (looseW vw [Str.ofString "SnobolError"]) mean mg mb h₀) (hcs : cs.kind = .function) (hdp : dp + 10 < recursionLimit) (hun : un + 80 < cLine)
  (hN : News h₀ L s.heap ((x, instObj 286 d) :: (d, dictOf es n) :: rest)) (hW : getL (Str.ofString "width") es = some (some (.int 32 tw)))
  (hret : ∀ t h' tk', Fr h₀ L h' m → News h₀ L h' ((x, instObj 286 d) :: (d, dictOf es n) :: rest) → Q (.int (i * j) t) { s with heap := h', toks := tk' }) :
  wpAny (model PySem.Challenge.rw_xm0949_01.row.prog w) (ktrTop dp un gd cn cs L a ccd cl outer) (call (.ref 233) [.ref x, .str (Str.ofString "*") to, .int i ti, .int j tj]) Q E s := by
  revert hX
  k_fill
  intro hX
  refine wpAny_call ?_
  k_dflt cell_enter
  k_steps
  all_goals (refine hret _ _ _ ?e2 ?e3; (case e2 => k_asm); (case e3 => refine' cb_drop ?cbN ?cbS; (case cbN => assumption); (case cbS => kcj_all)))
end
end
end Mine
namespace Mine
section
open PySem PySem.Spec PySem.Calls PySem.W PyProof.Rows
theorem mul_b {i j : Int} (h0 : 0 ≤ i) (h1 : i ≤ 11) (h2 : 0 ≤ j) (h3 : j ≤ 11) : 0 ≤ i * j ∧ i * j ≤ 121 := by
  refine ⟨Int.mul_nonneg h0 h2, ?_⟩
  have := Int.mul_le_mul h1 h3 h2 (by omega : (0:Int) ≤ 11)
  omega
theorem mul_b0 {i j : Int} (h0 : 0 ≤ i) (h1 : i ≤ 11) (h2 : 0 ≤ j) (h3 : j ≤ 11) : 0 ≤ i * j := (mul_b h0 h1 h2 h3).1
theorem mul_b1 {i j : Int} (h0 : 0 ≤ i) (h1 : i ≤ 11) (h2 : 0 ≤ j) (h3 : j ≤ 11) : i * j ≤ 1000 := Int.le_trans (mul_b h0 h1 h2 h3).2 (by decide)
theorem mod_b {i j : Int} (h2 : 0 < j) : 0 ≤ i % j ∧ i % j < j := ⟨Int.emod_nonneg _ (by omega), Int.emod_lt_of_pos _ h2⟩
theorem cons2 {p q : Addr × Obj} {news : List (Addr × Obj)} (hp : p ∈ news) (hq : q ∈ news) : ∀ z ∈ p :: q :: news, z ∈ news := by
  intro z hz
  rcases List.mem_cons.mp hz with rfl | hz
  · exact hp
  rcases List.mem_cons.mp hz with rfl | hz
  · exact hq
  exact hz
section
variable {w : World} {mean : ExcName → Option Value} {mg mb : Str → Option Value} {dp un : Nat} {gd : Option (List Code)} {cn : Str} {cs : Scope} {a : Addr} {ccd : Value} {cl : List (Str × Addr)} {outer : List Env} {A₀ : Around} {base h₀ : Heap} {L : Addr} {m : Str → Option Value} {s : Shared} {Q E : Value → Shared → Prop} {x d l : Addr} {es : List DictEntry} {n : Nat} {i j : Int} {ti tj tw to : Tok}
theorem rem_use {news : List (Addr × Obj)} (h0 : 0 ≤ i) (h1 : i ≤ 1000) (h2 : 0 < j) (h3 : j ≤ 11) (hB : Below A₀ base outer h₀) (hF : Fr h₀ L s.heap m) (hX : (hd.heap_39 w.params).In h₀) (hT : Top vw (looseW vw [Str.ofString "SnobolError"]) mean mg mb h₀) (hcs : cs.kind = .function) (hdp : dp + 10 < recursionLimit) (hun : un + 80 < cLine)
  (hN : News h₀ L s.heap news) (hl : (l, W.listOf #[.int i ti, .int j tj] 0) ∈ news) (hx : (x, instObj 286 d) ∈ news) (hd : (d, dictOf es n) ∈ news) (hW : getL (Str.ofString "width") es = some (some (.int 32 tw)))
  (hret : ∀ t h' tk', Fr h₀ L h' m → News h₀ L h' news → Q (.int (i % j) t) { s with heap := h', toks := tk' }) :
  wpAny (model PySem.Challenge.rw_xm0949_01.row.prog w) (ktrTop dp un gd cn cs L a ccd cl outer) (call (.ref 268) [.ref x, .ref l]) Q E s := by
  have e : i - j * (i / j) = i % j := (Int.emod_def i j).symm
  have hb := mod_b (i := i) h2
  refine rem_core (rest := news) h0 h1 h2 h3 (Int.ediv_nonneg h0 (by omega)) (Int.le_trans (Int.ediv_le_self _ h0) h1) (e ▸ hb.1) (e ▸ hb.2) hB hF hX hT hcs hdp hun (cb_drop hN (cons3 hl hx hd)) hW ?_
  intro t h' tk' F N
  rw [e]
  exact hret t h' tk' F (cb_drop N fun p hp => .tail _ (.tail _ (.tail _ hp)))
theorem bin_use {news : List (Addr × Obj)} (h0 : 0 ≤ i) (h1 : i ≤ 11) (h2 : 0 ≤ j) (h3 : j ≤ 11) (hB : Below A₀ base outer h₀) (hF : Fr h₀ L s.heap m) (hX : (hd.heap_39 w.params).In h₀) (hT : Top vw (looseW vw [Str.ofString "SnobolError"]) mean mg mb h₀) (hcs : cs.kind = .function) (hdp : dp + 10 < recursionLimit) (hun : un + 80 < cLine)
  (hN : News h₀ L s.heap news) (hx : (x, instObj 286 d) ∈ news) (hd : (d, dictOf es n) ∈ news) (hW : getL (Str.ofString "width") es = some (some (.int 32 tw)))
  (hret : ∀ t h' tk', Fr h₀ L h' m → News h₀ L h' news → Q (.int (i * j) t) { s with heap := h', toks := tk' }) :
  wpAny (model PySem.Challenge.rw_xm0949_01.row.prog w) (ktrTop dp un gd cn cs L a ccd cl outer) (call (.ref 233) [.ref x, .str (Str.ofString "*") to, .int i ti, .int j tj]) Q E s := by
  have hb := mul_b h0 h1 h2 h3
  refine bin_core (rest := news) h0 (by omega) h2 (by omega) hb.1 (by omega) hB hF hX hT hcs hdp hun (cb_drop hN (cons2 hx hd)) hW ?_
  intro t h' tk' F N
  exact hret t h' tk' F (cb_drop N fun p hp => .tail _ (.tail _ hp))
end
end
end Mine
namespace Mine
section
open PySem PySem.Spec PySem.Calls PySem.W PyProof.Rows
section
variable {prog : Program} {w : World} {A : Around} {E : Value → Shared → Prop} {s : Shared} {h₀ : Heap} {L : Addr} {cn : Str} {cs : Scope} {a : Addr} {ccd : Value} {cl : List (Str × Addr)} {x : Str} {body : List Stmt} {Q : Flow → Shared → Prop}

def TurnEnd (h₀ : Heap) (L c : Addr) (J : (Str → Option Value) → Prop) (it : Addr × Obj) (news : List (Addr × Obj)) (s₁ : Shared) (f : Flow) (s₂ : Shared) : Prop :=
  f = .next ∧ ∃ h tk m oc v, s₂ = { s₁ with heap := h, toks := tk } ∧ Fr h₀ L h m ∧ News h₀ L h (it :: (c, oc) :: news) ∧ oc.data = .cell v ∧ J m
def LoopC (prog : Program) (w : World) (A : Around) (env : Env) (x : Str) (body : List Stmt) (Q : Flow → Shared → Prop) (E : Value → Shared → Prop) (it : Value) (s₂ : Shared) : Prop :=
  ∀ px, codeAny (model prog w) A (.forLoop (.Name x px) it body [] env) (fun r s' => match r with | .ok f => Q f s' | .error e => cameBackBy (model prog w) A env E e s') s₂
def LoopHere (prog : Program) (w : World) (A : Around) (env : Env) (x : Str) (body : List Stmt) (Q : Flow → Shared → Prop) (E : Value → Shared → Prop) (xv : Value) (s₁ : Shared) : Prop :=
  wpAny (model prog w) A (pyIter xv) (fun it s₂ => LoopC prog w A env x body Q E it s₂) E s₁
theorem For_C {env : Env} {px pos : Pos} {iter : Expr}
    (h : wpAny (model prog w) A (eval iter env) (fun xv s₁ => LoopHere prog w A env x body Q E xv s₁) E s)
    (hs : ∀ x, foldedSetIterable iter env x = pure x) :
    wpAny (model prog w) A (exec (.For (.Name x px) iter body [] pos) env) Q E s :=
  wpAny_For (wpAny_mono h (fun xv s₁ h₁ => wpAny_mono h₁ (fun it s₂ h₂ => h₂ px) fun _ _ e => e) fun _ _ e => e) hs

theorem iter_C {r : Addr} {a₀ b₀ : Int} {t₀ u₀ v₀ : Tok} {n : Nat} {m₀ : Str → Option Value} {news : List (Addr × Obj)} {c : Addr} {oc : Obj} {cv : Option Value}
    (hh : A.handled = none) (hr : IsRange s.heap r a₀ b₀ 1 t₀ u₀ v₀) (hsmall : Builtin.Range.small a₀ b₀ 1 = true) (hn : Builtin.Range.rangeSize a₀ b₀ 1 = (n : Int))
    (hk : cs.kind = .function) (hx : (envX cn cs L a ccd cl).kindOf x = some .cell) (hc : cl.lookup x = some c)
    (F : Fr h₀ L s.heap m₀) (N : News h₀ L s.heap ((c, oc) :: news)) (hd : oc.data = .cell cv) (hcn : ∀ p ∈ news, p.1 ≠ c)
    (J : Nat → (Str → Option Value) → Prop) (h0 : J 0 m₀)
    (turn : ∀ (i : Nat) (k : Int) t m₁ h tk I oI oc', i < n → k = a₀ + (i : Int) → J i m₁ → oc'.data = .cell (some (.int k t)) → Fr h₀ L h m₁ → News h₀ L h ((I, oI) :: (c, oc') :: news) → I ≠ c → (∀ p ∈ news, p.1 ≠ I) →
      wpAny (model prog w) A (execs body (envX cn cs L a ccd cl)) (TurnEnd h₀ L c (J (i + 1)) (I, oI) news { s with heap := h, toks := tk }) (fun _ _ => False) { s with heap := h, toks := tk })
    (done : ∀ m₁ h tk oc' cv', J n m₁ → oc'.data = .cell cv' → Fr h₀ L h m₁ → News h₀ L h ((c, oc') :: news) → Q .next { s with heap := h, toks := tk }) :
    LoopHere prog w A (envX cn cs L a ccd cl) x body Q E (.ref r) s := by
  unfold LoopHere
  refine wpAny_pyIter_range hr hsmall ?_
  intro px
  have hLI : L ≠ s.heap.objs.size := Nat.ne_of_lt F.ns.lt
  have hcI : s.heap.objs.size ≠ c := Nat.ne_of_gt (Heap.lt_size (N _ (.head _)).1)
  have hnI : ∀ p ∈ news, p.1 ≠ s.heap.objs.size := fun p hp => Nat.ne_of_lt (Heap.lt_size (N p (.tail _ hp)).1)
  have hoI : h₀.get? s.heap.objs.size = none := by
    cases hq : h₀.get? s.heap.objs.size with
    | none => rfl
    | some o => exact absurd (Heap.lt_size (F.keep _ _ hq)) (Nat.lt_irrefl _)
  generalize hIe : s.heap.objs.size = I at *
  have W := Walks.range (prog := prog) (w := w) hh I a₀ 1 n
  refine codeAny_forLoop
    (fun k s' => ∃ h tk m i oc v, s' = { s with heap := h, toks := tk } ∧ IsRangeIter h I (a₀ + (i : Nat) * 1) ((n : Int) - (i : Nat)) 1 ∧ Fr h₀ L h m ∧ News h₀ L h ((c, oc) :: news) ∧ oc.data = .cell v ∧ J i m ∧ i ≤ n ∧ k = n + 1 - i) ?_ (n + 1)
    ⟨_, s.toks, m₀, 0, oc, cv, rfl, ?_, F.push _, (fun p hp => ⟨Heap.get?_push_of_some _ (N p hp).1, (N p hp).2⟩), hd, h0, Nat.zero_le _, rfl⟩
  · rintro k s' ⟨h', tk, m', i, oc', v', rfl, hst', F', N', hd', hJ, hi, rfl⟩
    have next : ∀ h₁ : Heap, (∀ b o, b ∉ [I] → h'.get? b = some o → h₁.get? b = some o) → Fr h₀ L h₁ m' ∧ News h₀ L h₁ ((c, oc') :: news) := fun h₁ hk₁ => by
      refine ⟨⟨F'.ns.at' fun o e => hk₁ _ o (fun q => hLI (List.mem_singleton.mp q)) e, fun b o e => hk₁ b o (fun q => ?_) (F'.keep b o e), F'.above⟩, fun p hp => ⟨hk₁ _ _ (fun q => ?_) (N' p hp).1, (N' p hp).2⟩⟩
      · rw [List.mem_singleton.mp q, hoI] at e; cases e
      · rcases List.mem_cons.mp hp with rfl | hp
        · exact hcI (List.mem_singleton.mp q).symm
        · exact hnI p hp (List.mem_singleton.mp q)
    by_cases hlt : i < n
    · refine W.item i _ _ _ hlt hst' fun v h₁ tk₁ hP hst₁ hk₁ => ?_
      obtain ⟨t, rfl⟩ := hP
      obtain ⟨F₁, N₁⟩ := next h₁ hk₁
      have N₂ : News h₀ L h₁ ((I, { cls := .type "range_iterator", dict := none, data := .fields #[rawInt (a₀ + ((i + 1 : Nat) : Nat) * 1), rawInt ((n : Int) - ((i + 1 : Nat) : Nat)), rawInt 1], slots := #[] }) :: (c, oc') :: news) := by
        intro p hp
        rcases List.mem_cons.mp hp with rfl | hp
        · exact ⟨hst₁, Ne.symm hLI, hoI⟩
        · exact N₁ p hp
      refine wpAny_assign_Name (storeX_C F₁ N₂ hc (UpdF.tail hcI (UpdF.head hcn)) hd' (fun h₂ o' F₂ N₃ d₂ => ?_) hk hx)
      refine wpAny_noRaise (wpAny_mono (turn i (a₀ + (i : Int)) t m' h₂ tk₁ I _ o' hlt rfl hJ (by rw [d₂, Int.mul_one]) F₂ N₃ hcI hnI) (fun f s₃ p => ?_) fun _ _ e => e)
      obtain ⟨rfl, h₃, tk₃, m₃, oc₃, v₃, rfl, F₃, N₄, hd₃, hJ₃⟩ := p
      exact ⟨n + 1 - (i + 1), by omega, h₃, tk₃, m₃, i + 1, oc₃, v₃, rfl, (N₄ _ (.head _)).1, F₃, fun p hp => N₄ p (.tail _ hp), hd₃, hJ₃, hlt, rfl⟩
    · have hin : i = n := by omega
      subst hin
      refine W.done _ _ _ hst' fun h₁ tk₁ hk₁ => wpAny_execs_nil ?_
      obtain ⟨F₁, N₁⟩ := next h₁ hk₁
      exact done m' h₁ tk₁ oc' v' hJ hd' F₁ N₁
  · have : (a₀ + ((0 : Nat) : Int) * 1) = a₀ := by simp
    rw [this]
    have e2 : ((n : Int) - ((0 : Nat) : Int)) = Builtin.Range.rangeSize a₀ b₀ 1 := by rw [hn]; simp
    rw [e2, ← hIe]
    exact Heap.get?_push_size _ rfl

theorem map_eq {m m₀ : Str → Option Value} {y : Str} {v : Value} (h1 : m y = some v) (h2 : ∀ z, z ≠ y → m z = m₀ z) : m = fun z => if z = y then some v else m₀ z := by
  funext z
  by_cases e : z = y
  · subst e; simp [h1]
  · simp [e, h2 z e]
theorem iter_CI {r : Addr} {a₀ b₀ : Int} {t₀ u₀ v₀ : Tok} {n : Nat} {m₀ : Str → Option Value} {news : List (Addr × Obj)} {c : Addr} {oc : Obj} {cv : Option Value} {y : Str} {ty : Tok} (f : Nat → Int)
    (hh : A.handled = none) (hr : IsRange s.heap r a₀ b₀ 1 t₀ u₀ v₀) (hsmall : Builtin.Range.small a₀ b₀ 1 = true) (hn : Builtin.Range.rangeSize a₀ b₀ 1 = (n : Int))
    (hk : cs.kind = .function) (hx : (envX cn cs L a ccd cl).kindOf x = some .cell) (hc : cl.lookup x = some c)
    (F : Fr h₀ L s.heap m₀) (N : News h₀ L s.heap ((c, oc) :: news)) (hd : oc.data = .cell cv) (hcn : ∀ p ∈ news, p.1 ≠ c)
    (hy : m₀ y = some (.int (f 0) ty))
    (turn : ∀ (i : Nat) (k : Int) t tf h tk I oI oc', i < n → k = a₀ + (i : Int) → oc'.data = .cell (some (.int k t)) → Fr h₀ L h (fun z => if z = y then some (.int (f i) tf) else m₀ z) → News h₀ L h ((I, oI) :: (c, oc') :: news) → I ≠ c → (∀ p ∈ news, p.1 ≠ I) →
      wpAny (model prog w) A (execs body (envX cn cs L a ccd cl)) (TurnEnd h₀ L c (fun m => (∃ t, m y = some (.int (f (i + 1)) t)) ∧ ∀ z, z ≠ y → m z = m₀ z) (I, oI) news { s with heap := h, toks := tk }) (fun _ _ => False) { s with heap := h, toks := tk })
    (done : ∀ tf h tk oc' cv', oc'.data = .cell cv' → Fr h₀ L h (fun z => if z = y then some (.int (f n) tf) else m₀ z) → News h₀ L h ((c, oc') :: news) → Q .next { s with heap := h, toks := tk }) :
    LoopHere prog w A (envX cn cs L a ccd cl) x body Q E (.ref r) s := by
  refine iter_C hh hr hsmall hn hk hx hc F N hd hcn (fun i m => (∃ t, m y = some (.int (f i) t)) ∧ ∀ z, z ≠ y → m z = m₀ z) ⟨⟨ty, hy⟩, fun _ _ => rfl⟩ ?_ ?_
  · rintro i k t m₁ h tk I oI oc' hi hk' ⟨⟨tf, h1⟩, h2⟩ hdc F₁ N₁ hIc hnI
    exact turn i k t tf h tk I oI oc' hi hk' hdc (map_eq h1 h2 ▸ F₁) N₁ hIc hnI
  · rintro m₁ h tk oc' cv' ⟨⟨tf, h1⟩, h2⟩ hdc F₁ N₁
    exact done tf h tk oc' cv' hdc (map_eq h1 h2 ▸ F₁) N₁

theorem turn_fin {c : Addr} {J : (Str → Option Value) → Prop} {it : Addr × Obj} {news all : List (Addr × Obj)} {s₁ : Shared} {h : Heap} {tk : Nat} {m : Str → Option Value} {oc : Obj} {v : Option Value}
    (F : Fr h₀ L h m) (N : News h₀ L h all) (sub : ∀ p ∈ it :: (c, oc) :: news, p ∈ all) (hd : oc.data = .cell v) (hJ : J m) : TurnEnd h₀ L c J it news s₁ .next { s₁ with heap := h, toks := tk } :=
  ⟨rfl, h, tk, m, oc, v, rfl, F, fun p hp => N p (sub p hp), hd, hJ⟩
def TurnEndL (h₀ : Heap) (L : Addr) (J : (Str → Option Value) → Prop) (it : Addr × Obj) (news : List (Addr × Obj)) (s₁ : Shared) (f : Flow) (s₂ : Shared) : Prop :=
  f = .next ∧ ∃ h tk m, s₂ = { s₁ with heap := h, toks := tk } ∧ Fr h₀ L h m ∧ News h₀ L h (it :: news) ∧ J m
theorem turnL_fin {J : (Str → Option Value) → Prop} {it : Addr × Obj} {news all : List (Addr × Obj)} {s₁ : Shared} {h : Heap} {tk : Nat} {m : Str → Option Value}
    (F : Fr h₀ L h m) (N : News h₀ L h all) (sub : ∀ p ∈ it :: news, p ∈ all) (hJ : J m) : TurnEndL h₀ L J it news s₁ .next { s₁ with heap := h, toks := tk } :=
  ⟨rfl, h, tk, m, rfl, F, fun p hp => N p (sub p hp), hJ⟩
theorem map_eq2 {m m₀ : Str → Option Value} {x y : Str} {v k : Value} (h1 : m y = some v) (h2 : ∀ z, z ≠ y → z ≠ x → m z = m₀ z) : (fun z => if z = x then some k else m z) = fun z => if z = x then some k else if z = y then some v else m₀ z := by
  funext z
  by_cases e : z = x
  · simp [e]
  · by_cases e2 : z = y
    · subst e2; simp [e, h1]
    · simp [e, e2, h2 z e2 e]
theorem map_eq3 {m m₀ : Str → Option Value} {x y : Str} {v : Value} (h1 : m y = some v) (h2 : ∀ z, z ≠ y → z ≠ x → m z = m₀ z) : m = fun z => if z = y then some v else if z = x then m x else m₀ z := by
  funext z
  by_cases e : z = y
  · subst e; simp [h1]
  · by_cases e2 : z = x
    · subst e2; simp [e]
    · simp [e, e2, h2 z e e2]
theorem iter_LI {r : Addr} {a₀ b₀ : Int} {t₀ u₀ v₀ : Tok} {n : Nat} {m₀ : Str → Option Value} {news : List (Addr × Obj)} {y : Str} {ty : Tok} (f : Nat → Int)
    (hh : A.handled = none) (hr : IsRange s.heap r a₀ b₀ 1 t₀ u₀ v₀) (hsmall : Builtin.Range.small a₀ b₀ 1 = true) (hn : Builtin.Range.rangeSize a₀ b₀ 1 = (n : Int))
    (hk : cs.kind = .function) (hx : (envX cn cs L a ccd cl).kindOf x = some .local)
    (F : Fr h₀ L s.heap m₀) (N : News h₀ L s.heap news)
    (hy : m₀ y = some (.int (f 0) ty)) (hxy : y ≠ x)
    (turn : ∀ (i : Nat) (k : Int) t tf h tk I oI, i < n → k = a₀ + (i : Int) → Fr h₀ L h (fun z => if z = x then some (.int k t) else if z = y then some (.int (f i) tf) else m₀ z) → News h₀ L h ((I, oI) :: news) → (∀ p ∈ news, p.1 ≠ I) →
      wpAny (model prog w) A (execs body (envX cn cs L a ccd cl)) (TurnEndL h₀ L (fun m => (∃ t, m y = some (.int (f (i + 1)) t)) ∧ ∀ z, z ≠ y → z ≠ x → m z = m₀ z) (I, oI) news { s with heap := h, toks := tk }) (fun _ _ => False) { s with heap := h, toks := tk })
    (done : ∀ tf h tk u, Fr h₀ L h (fun z => if z = y then some (.int (f n) tf) else if z = x then u else m₀ z) → News h₀ L h news → Q .next { s with heap := h, toks := tk }) :
    LoopHere prog w A (envX cn cs L a ccd cl) x body Q E (.ref r) s := by
  unfold LoopHere
  refine wpAny_pyIter_range hr hsmall ?_
  intro px
  have hLI : L ≠ s.heap.objs.size := Nat.ne_of_lt F.ns.lt
  have hnI : ∀ p ∈ news, p.1 ≠ s.heap.objs.size := fun p hp => Nat.ne_of_lt (Heap.lt_size (N p hp).1)
  have hoI : h₀.get? s.heap.objs.size = none := by
    cases hq : h₀.get? s.heap.objs.size with
    | none => rfl
    | some o => exact absurd (Heap.lt_size (F.keep _ _ hq)) (Nat.lt_irrefl _)
  generalize hIe : s.heap.objs.size = I at *
  have W := Walks.range (prog := prog) (w := w) hh I a₀ 1 n
  refine codeAny_forLoop
    (fun k s' => ∃ h tk m i, s' = { s with heap := h, toks := tk } ∧ IsRangeIter h I (a₀ + (i : Nat) * 1) ((n : Int) - (i : Nat)) 1 ∧ Fr h₀ L h m ∧ News h₀ L h news ∧ (∃ t, m y = some (.int (f i) t)) ∧ (∀ z, z ≠ y → z ≠ x → m z = m₀ z) ∧ i ≤ n ∧ k = n + 1 - i) ?_ (n + 1)
    ⟨_, s.toks, m₀, 0, rfl, ?_, F.push _, (fun p hp => ⟨Heap.get?_push_of_some _ (N p hp).1, (N p hp).2⟩), ⟨ty, hy⟩, fun _ _ _ => rfl, Nat.zero_le _, rfl⟩
  · rintro k s' ⟨h', tk, m', i, rfl, hst', F', N', ⟨tf, h1⟩, h2, hi, rfl⟩
    have next : ∀ h₁ : Heap, (∀ b o, b ∉ [I] → h'.get? b = some o → h₁.get? b = some o) → Fr h₀ L h₁ m' ∧ News h₀ L h₁ news := fun h₁ hk₁ => by
      refine ⟨⟨F'.ns.at' fun o e => hk₁ _ o (fun q => hLI (List.mem_singleton.mp q)) e, fun b o e => hk₁ b o (fun q => ?_) (F'.keep b o e), F'.above⟩, fun p hp => ⟨hk₁ _ _ (fun q => ?_) (N' p hp).1, (N' p hp).2⟩⟩
      · rw [List.mem_singleton.mp q, hoI] at e; cases e
      · exact hnI p hp (List.mem_singleton.mp q)
    by_cases hlt : i < n
    · refine W.item i _ _ _ hlt hst' fun v h₁ tk₁ hP hst₁ hk₁ => ?_
      obtain ⟨t, rfl⟩ := hP
      obtain ⟨F₁, N₁⟩ := next h₁ hk₁
      have N₂ : News h₀ L h₁ ((I, { cls := .type "range_iterator", dict := none, data := .fields #[rawInt (a₀ + ((i + 1 : Nat) : Nat) * 1), rawInt ((n : Int) - ((i + 1 : Nat) : Nat)), rawInt 1], slots := #[] }) :: news) := by
        intro p hp
        rcases List.mem_cons.mp hp with rfl | hp
        · exact ⟨hst₁, Ne.symm hLI, hoI⟩
        · exact N₁ p hp
      refine wpAny_assign_Name (storeX_L F₁ N₂ (fun h₂ F₂ N₃ => ?_) hk hx)
      rw [Int.mul_one] at F₂
      refine wpAny_noRaise (wpAny_mono (turn i (a₀ + (i : Int)) t tf h₂ _ I _ hlt rfl (map_eq2 h1 h2 ▸ F₂) N₃ hnI) (fun f s₃ p => ?_) fun _ _ e => e)
      obtain ⟨rfl, h₃, tk₃, m₃, rfl, F₃, N₄, h1', h2'⟩ := p
      exact ⟨n + 1 - (i + 1), by omega, h₃, tk₃, m₃, i + 1, rfl, (N₄ _ (.head _)).1, F₃, fun p hp => N₄ p (.tail _ hp), h1', h2', hlt, rfl⟩
    · have hin : i = n := by omega
      subst hin
      refine W.done _ _ _ hst' fun h₁ tk₁ hk₁ => wpAny_execs_nil ?_
      obtain ⟨F₁, N₁⟩ := next h₁ hk₁
      exact done tf h₁ tk₁ (m' x) (map_eq3 h1 h2 ▸ F₁) N₁
  · have : (a₀ + ((0 : Nat) : Int) * 1) = a₀ := by simp
    rw [this]
    have e2 : ((n : Int) - ((0 : Nat) : Int)) = Builtin.Range.rangeSize a₀ b₀ 1 := by rw [hn]; simp
    rw [e2, ← hIe]
    exact Heap.get?_push_size _ rfl
end
end
end Mine
namespace Mine
section
open PySem PySem.Spec PySem.Calls PySem.W PyProof.Rows
def cnt (row : List Int) (k : Nat) : Int := (((row.drop (k + 1)).filter fun y => decide (row.getD k 0 > y)).length : Int)
def fal (row : List Int) : Nat → Int
  | 0 => 0
  | k + 1 => fal row k + cnt row k
def pw (i j : Int) : Nat → Int
  | 0 => 1
  | q + 1 => pw i j q * i % j
def rowOf (i j : Int) : List Int := List.map (fun k' => i * k' % j) (rangeKs 1 (j - 1).toNat)
def sgn (i j : Int) : Int := if pw i j ((j - 1).fdiv 2).toNat = 1 then 1 else 0 - 1
def combos : List (Int × Int) := [(2, 3), (1, 3), (3, 5), (2, 5), (1, 5), (3, 7), (5, 7), (4, 7), (3, 11), (5, 11), (7, 11)]
def good (R : List Int) (i j : Int) : Bool :=
  decide (0 < i ∧ i < j ∧ 0 < j ∧ j ≤ 11) && (R.isPerm (rangeKs 1 (j - 1).toNat)) && ([1, j - 1].any fun x => x == pw i j ((j - 1).fdiv 2).toNat) &&
  decide ((fal R (j - 1).toNat).fmod 2 = ((List.foldl (fun l' k' => if (j - 1).fdiv 2 < k' then l' ++ [k'] else l') [] (List.take ((j - 1).fdiv 2).toNat R)).length : Int).fmod 2) &&
  ((pw i j ((j - 1).fdiv 2).toNat == 1) == ((fal R (j - 1).toNat).fmod 2 == 0))
theorem good_all : ∀ p ∈ combos, good (rowOf p.1 p.2) p.1 p.2 = true := by decide +kernel
theorem sorted_eq : ∀ {a b : List Int}, a.Perm b → a.Pairwise (· ≤ ·) → b.Pairwise (· ≤ ·) → a = b
  | [], b, p, _, _ => (List.nil_perm.mp p).symm
  | x :: a, [], p, _, _ => absurd p.length_eq (by simp)
  | x :: a, y :: b, p, ha, hb => by
    have h1 := List.pairwise_cons.mp ha
    have h2 := List.pairwise_cons.mp hb
    have e : x = y := by
      have hy : y ∈ x :: a := p.mem_iff.mpr (List.mem_cons_self ..)
      have hx : x ∈ y :: b := p.mem_iff.mp (List.mem_cons_self ..)
      rcases List.mem_cons.mp hy with e | hy
      · exact e.symm
      rcases List.mem_cons.mp hx with e | hx
      · exact e
      have q1 := h1.1 y hy
      have q2 := h2.1 x hx
      omega
    subst e
    rw [sorted_eq ((List.perm_cons x).mp p) h1.2 h2.2]
theorem range_sorted (n : Nat) : (rangeKs 1 n).Pairwise (· ≤ ·) := by
  unfold rangeKs
  rw [List.pairwise_map]
  exact List.Pairwise.imp (fun h => by omega) List.pairwise_lt_range
structure Facts (R : List Int) (i j : Int) : Prop where
  b : 0 < i ∧ i < j ∧ 0 < j ∧ j ≤ 11
  eq : ∀ n' : List Int, n'.Perm R → n'.Pairwise (· ≤ ·) → n' = rangeKs 1 (j - 1).toNat
  any : ([1, j - 1].any fun x => x == pw i j ((j - 1).fdiv 2).toNat) = true
  par : (fal R (j - 1).toNat).fmod 2 = ((List.foldl (fun l' k' => if (j - 1).fdiv 2 < k' then l' ++ [k'] else l') [] (List.take ((j - 1).fdiv 2).toNat R)).length : Int).fmod 2
  sg : ((pw i j ((j - 1).fdiv 2).toNat == 1) == ((fal R (j - 1).toNat).fmod 2 == 0)) = true
theorem facts {i j : Int} (h : (i, j) ∈ combos) : Facts (rowOf i j) i j := by
  have g := good_all (i, j) h
  unfold good at g
  simp only [Bool.and_eq_true, decide_eq_true_eq] at g
  obtain ⟨⟨⟨⟨g1, g2⟩, g3⟩, g4⟩, g5⟩ := g
  exact ⟨g1, fun n' p o => sorted_eq (p.trans (List.isPerm_iff.mp g2)) o (range_sorted _), g3, g4, g5⟩
/-- the law's own end -/
theorem law_end : ∀ p ∈ [((3 : Int), (5 : Int)), (3, 7), (3, 11), (5, 3), (5, 7), (5, 11), (7, 3), (7, 5), (7, 11), (11, 3), (11, 5), (11, 7)],
    (p.2.fmod p.1, p.1) ∈ combos ∧ (p.1.fmod p.2, p.2) ∈ combos ∧ (decide (sgn (p.2.fmod p.1) p.1 ≠ sgn (p.1.fmod p.2) p.2) == (decide (p.1.fmod 4 = 3) && decide (p.2.fmod 4 = 3))) = true := by decide +kernel
end
end Mine
namespace Mine
section
open PySem PySem.Spec PySem.Calls PySem.W PyProof.Rows
theorem kbA {a : Int} (h : 0 < a) : 0 ≤ a := by omega
theorem kbC {a : Int} (h : 1 ≤ a) : 0 ≤ a := by omega
theorem kbB {a b : Int} (h : a < b) (h' : b ≤ 11) : a ≤ 11 := by omega
theorem kbD {k j : Int} (h : k < 1 + ((j - 1).toNat : Int)) (h2 : 0 < j) (h3 : j ≤ 11) : k ≤ 11 := by omega
local macro_rules | `(tactic| k_room) => `(tactic| ktr_room)
local macro_rules | `(tactic| k_get) => `(tactic| assumption)
local macro_rules | `(tactic| walk_at "call ref") => `(tactic| (k_here; (with_reducible show wpAny _ _ (call (Value.ref 268) [Value.ref _, Value.ref _]) _ _ _); k_dflt (refine' rem_use ?y0 ?y1 ?z2 ?z3 ?k1 ?k2 ?k3 ?k4 ?k5 ?k6 ?k7 ?k8 ?m1 ?m2 ?m3 ?m4 ?_; (case k1 => k_asm); (case k2 => k_asm); (case k3 => k_asm); (case k4 => k_asm); (case k5 => first | exact rfl | assumption); (case k6 => ktr_room); (case k7 => ktr_units); (case k8 => k_asm); (case m1 => k_mem); (case m2 => k_mem); (case m3 => k_mem); (case m4 => assumption); (case y0 => first | exact mul_b0 (by first | assumption | exact kbA (by assumption) | exact kbC (by assumption) | exact kbB (by assumption) (by assumption) | exact kbD (by assumption) (by assumption) (by assumption) | omega) (by first | assumption | exact kbA (by assumption) | exact kbC (by assumption) | exact kbB (by assumption) (by assumption) | exact kbD (by assumption) (by assumption) (by assumption) | omega) (by first | assumption | exact kbA (by assumption) | exact kbC (by assumption) | exact kbB (by assumption) (by assumption) | exact kbD (by assumption) (by assumption) (by assumption) | omega) (by first | assumption | exact kbA (by assumption) | exact kbC (by assumption) | exact kbB (by assumption) (by assumption) | exact kbD (by assumption) (by assumption) (by assumption) | omega) | omega); (case y1 => first | exact mul_b1 (by first | assumption | exact kbA (by assumption) | exact kbC (by assumption) | exact kbB (by assumption) (by assumption) | exact kbD (by assumption) (by assumption) (by assumption) | omega) (by first | assumption | exact kbA (by assumption) | exact kbC (by assumption) | exact kbB (by assumption) (by assumption) | exact kbD (by assumption) (by assumption) (by assumption) | omega) (by first | assumption | exact kbA (by assumption) | exact kbC (by assumption) | exact kbB (by assumption) (by assumption) | exact kbD (by assumption) (by assumption) (by assumption) | omega) (by first | assumption | exact kbA (by assumption) | exact kbC (by assumption) | exact kbB (by assumption) (by assumption) | exact kbD (by assumption) (by assumption) (by assumption) | omega) | omega); (case z2 => first | assumption | omega); (case z3 => first | assumption | omega); k_whole); intro t9 h9 tk9 F9 N9; (try dsimp only); (try k_sweep); (try k_fold)))
local macro_rules | `(tactic| walk_at "call ref") => `(tactic| (k_here; (with_reducible show wpAny _ _ (call (Value.ref 233) [Value.ref _, Value.str _ _, Value.int _ _, Value.int _ _]) _ _ _); k_dflt (refine' bin_use ?z0 ?z1 ?z2 ?z3 ?k1 ?k2 ?k3 ?k4 ?k5 ?k6 ?k7 ?k8 ?m2 ?m3 ?m4 ?_; (case z0 => first | assumption | exact kbA (by assumption) | exact kbC (by assumption) | exact kbB (by assumption) (by assumption) | exact kbD (by assumption) (by assumption) (by assumption) | omega); (case z1 => first | assumption | exact kbA (by assumption) | exact kbC (by assumption) | exact kbB (by assumption) (by assumption) | exact kbD (by assumption) (by assumption) (by assumption) | omega); (case z2 => first | assumption | exact kbA (by assumption) | exact kbC (by assumption) | exact kbB (by assumption) (by assumption) | exact kbD (by assumption) (by assumption) (by assumption) | omega); (case z3 => first | assumption | exact kbA (by assumption) | exact kbC (by assumption) | exact kbB (by assumption) (by assumption) | exact kbD (by assumption) (by assumption) (by assumption) | omega); (case k1 => k_asm); (case k2 => k_asm); (case k3 => k_asm); (case k4 => k_asm); (case k5 => first | exact rfl | assumption); (case k6 => ktr_room); (case k7 => ktr_units); (case k8 => k_asm); (case m2 => k_mem); (case m3 => k_mem); (case m4 => assumption); k_whole); intro t9 h9 tk9 F9 N9; (try dsimp only); (try k_sweep); (try k_fold)))
local macro_rules | `(tactic| walk_at "call ref") => `(tactic| (k_here; (with_reducible show wpAny _ _ (call (Value.ref 261) [Value.ref _, Value.ref _]) _ _ _); k_dflt (refine' gt_use ?k1 ?k2 ?k3 ?k4 ?k5 ?k6 ?k7 ?k8 ?m1 ?m2 ?m3 ?m4 ?_ ?_; (case k1 => k_asm); (case k2 => k_asm); (case k3 => k_asm); (case k4 => k_asm); (case k5 => first | exact rfl | assumption); (case k6 => ktr_room); (case k7 => ktr_units); (case k8 => k_asm); (case m1 => k_mem); (case m2 => k_mem); (case m3 => k_mem); (case m4 => assumption)); all_goals ((first | intro hg9 q9 dq9 h9 tk9 F9 N9 | intro hg9 t9 h9 tk9 F9 N9); (try dsimp only); (try k_sweep); (try k_fold))))
local macro_rules | `(tactic| walk_at "exec For Name Call cons nil") => `(tactic| (k_here; (with_reducible show wpAny _ _ (exec (Stmt.For (Expr.Name (PySem.Str.ofString "at") _) _ _ [] _) _) _ _ _); k_dflt (refine For_C ?_ (by intro _; rfl))))
theorem m_all : ∀ {rest : List (Addr × Obj)} {D c : Addr}, AllLt D rest → @LE.le Nat _ D c → ∀ p ∈ rest, p.1 ≠ c
  | [], _, _, _, _ => fun _ h => nomatch h
  | q :: r, D, c, h, hc => fun p hp => by
    rcases List.mem_cons.mp hp with rfl | hp
    · exact fun e => absurd h.1 (by rw [e]; exact Nat.not_lt.mpr hc)
    · exact m_all h.2 hc p hp
local macro_rules | `(tactic| k_all) => `(tactic| exact m_all (by assumption) (by omega))
section
variable {w : World} {mean : ExcName → Option Value} {mg mb : Str → Option Value} {dp un : Nat} {gd : Option (List Code)} {cn : Str} {cs : Scope} {a : Addr} {ccd : Value} {cl : List (Str × Addr)} {outer : List Env} {A₀ : Around} {base h₀ : Heap} {L : Addr} {m : Str → Option Value} {s : Shared} {Q E : Value → Shared → Prop} {x d l : Addr} {es : List DictEntry} {n : Nat} {i j : Int} {ti tj tw to : Tok}
theorem ldnX {M : Model} {A : Around} {E : Value → Shared → Prop} {s : Shared} {h₀ : Heap} {L : Addr} {m : Str → Option Value} {cn : Str} {cs : Scope} {a : Addr} {ccd : Value} {cl : List (Str × Addr)} {x : Str} {v : Value} {Q : Value → Shared → Prop} (F : Fr h₀ L s.heap m) (hv : m x = some v) (h : Q v s)
    (hk : cs.kind = .function) (hl : (envX cn cs L a ccd cl).kindOf x = some .local) :
    wpAny M A (loadName (envX cn cs L a ccd cl) x) Q E s := wpAny_loadName_local hk hl F.ns hv h
local macro_rules | `(tactic| walk_at "loadName") => `(tactic| (k_here; k_dflt (refine' ldnX ?F ?v ?_ ?a ?b; (case F => k_asm); (case a => rfl); (case b => rfl); (case v => rfl); k_whole)))
theorem my_sz {vs : List Value} (h : vs.length ≤ 10) : vs.toArray.size ≤ sizeLine := by
  rw [List.size_toArray, PySem.sizeLine_eq]; omega
local macro_rules | `(tactic| walk_at "subscriptTail Name Slice ref ref") => `(tactic| (k_here; (with_reducible show wpAny _ _ (subscriptTail _ (PySem.Expr.Slice _ _ none _) (Value.ref _) (Value.ref _)) _ _ _); k_dflt (refine' kmk_slice_ints ?F ?N ?l ?p ?q ?i ?m ?c ?_ ?s ?t ?z; (case F => k_asm); (case N => k_asm); (case l => exact News.isList (by k_asm) (by k_mem)); (case p => kmk_part); (case q => kmk_part); (case i => assumption); (case m => first | exact kmk_from (by assumption) (by omega) | exact kmk_upto (by assumption) (by omega)); (case c => kmk_len); (case s => with_unfolding_all rfl); (case t => kmk_pure); (case z => exact my_sz (by omega))); intro D' ws' h' F' N' l1 hI' hC' hL'; (try k_lt l1); (try k_sweep)))
theorem my_sz2 {vs : List Value} {ns : List Int} (hi : IntsAre vs ns) (h : ns.length ≤ 10) : vs.toArray.size ≤ sizeLine := by
  rw [List.size_toArray, hi.length, PySem.sizeLine_eq]; omega
local macro_rules | `(tactic| walk_at "eval ListComp") => `(tactic| (k_here; lct_look; k_dflt (refine LCt.ListComp_T (F₀ := by k_asm) (by with_unfolding_all rfl) (by decide) (by rfl) (by decide) (by rfl) ?_)))
local macro_rules | `(tactic| walk_at "CompSrcT") => `(tactic| (k_here; k_dflt (refine LCt.CompSrcT.ledger (by rfl) (by k_asm) (by k_asm) (by k_mem) (by exact my_sz2 (by assumption) (by first | assumption | omega)) ?_; intro g'; (refine' kci_list _ (by assumption) (fun k' t' I' oI' C' oC' D' m' ys' l' h' tk' E' hk' hI' hC' hx' F' N' off' ne' => ?_) ?_ ?_); (all_goals (try (simp only [LCg.Off3, and_true] at off'))); (all_goals (try ((show KPfMark → _); intro hMark'))); kcf_last)))
theorem ints_getD {vs : List Value} {ns : List Int} (hi : IntsAre vs ns) {q : Nat} (h : q < ns.length) : ∃ t, vs[q]? = some (.int (ns.getD q 0) t) := by
  have h' : q < vs.length := by rw [hi.length]; exact h
  obtain ⟨k, t, e, hk⟩ := IntsAre.at hi q vs[q] (by simp [h'])
  refine ⟨t, ?_⟩
  rw [List.getD_eq_getElem?_getD, hk, List.getElem?_eq_getElem h', e]
  rfl
theorem my_item {prog : Program} {w : World} {A : Around} {E : Value → Shared → Prop} {s : Shared} {value slice : PySem.Expr} {l : Addr} {vs : List Value} {ns : List Int} {k : Int} {u : Tok} {Q : Value → Shared → Prop}
    (hl : s.heap.IsList l vs.toArray) (hi : IntsAre vs ns) (h0 : 0 ≤ k) (hk : k < (ns.length : Int)) (hsm : ns.length ≤ 10) (h : ∀ t, Q (.int (ns.getD k.toNat 0) t) s)
    (hs : subscripted slice false (.ref l) (.int k u) = operate [.ref l, .int k u] (getItem (.ref l) (.int k u))) :
    wpAny (model prog w) A (subscriptTail value slice (.ref l) (.int k u)) Q E s := by
  obtain ⟨t, e⟩ := ints_getD hi (q := k.toNat) (by omega)
  exact tail_any hl.typeIs PySem.F.slot_list_getitem.lookup (wpAny_getItem_list hl h0 (by omega) (by simpa using e) (h t)) hs
local macro_rules | `(tactic| walk_at "subscriptTail Name Name ref int") => `(tactic| (k_here; (with_reducible show wpAny _ _ (subscriptTail _ _ (Value.ref _) (Value.int _ _)) _ _ _); k_dflt (refine' my_item ?k1 ?ki ?k2 ?k3 ?k4 ?_ ?k6; (case k1 => exact News.isList (by k_asm) (by k_mem)); (case ki => assumption); (case k2 => first | assumption | omega); (case k3 => first | assumption | omega); (case k4 => assumption); (case k6 => with_unfolding_all rfl)); intro t9))
theorem cend_no {h₀ : Heap} {L I C D : Addr} {m : Str → Option Value} {s₁ : Shared} {oI oC oD : Obj} {S : List (Addr × Obj) → Prop} {y : Value} {h' : Heap} {tk : Nat} {all news : List (Addr × Obj)} {l r : List Int}
    (F : Fr h₀ L h' m) (N : News h₀ L h' all) (sub : ∀ p ∈ (I, oI) :: (C, oC) :: (D, oD) :: news, p ∈ all) (off : LCg.Off3 I C D news) (hS : S news) (e : r = l) :
    LCg.CompEnd h₀ L m s₁ I oI C oC D oD S (fun _ news' => KCiNo news l r news') y { s₁ with heap := h', toks := tk } := LCg.CompEnd.intro F N news sub off hS (kci_no e rfl)
theorem cend_el {h₀ : Heap} {L I C D : Addr} {m : Str → Option Value} {s₁ : Shared} {oI oC oD : Obj} {S : List (Addr × Obj) → Prop} {a : Int} {t : Tok} {h' : Heap} {tk : Nat} {all news : List (Addr × Obj)} {l r : List Int}
    (F : Fr h₀ L h' m) (N : News h₀ L h' all) (sub : ∀ p ∈ (I, oI) :: (C, oC) :: (D, oD) :: news, p ∈ all) (off : LCg.Off3 I C D news) (hS : S news) (e : r = l ++ [a]) :
    LCg.CompEnd h₀ L m s₁ I oI C oC D oD S (fun y news' => KCiEl news l r y news') (.int a t) { s₁ with heap := h', toks := tk } := LCg.CompEnd.intro F N news sub off hS (kci_el e rfl rfl)
local macro_rules | `(tactic| walk_at "CompEnd") => `(tactic| (goal_has PySem.W.KCiNo PySem.W.KCiEl; kpf_tidy; k_dflt (first
  | (refine cend_no (by assumption) (by assumption) (by kcf_all) (by first | assumption | (simp only [LCg.Off3, and_true]; assumption)) (by lcg_src) ?kce; (case kce => kpf_eq))
  | (refine cend_el (by assumption) (by assumption) (by kcf_all) (by first | assumption | (simp only [LCg.Off3, and_true]; assumption)) (by lcg_src) ?kce; (case kce => kpf_eq)))))
theorem my_len {prog : Program} {w : World} {A : Around} {E : Value → Shared → Prop} {s : Shared} {l : Addr} {vs : List Value} {ns : List Int} {Q : Value → Shared → Prop}
    (hl : s.heap.IsList l vs.toArray) (hi : IntsAre vs ns) (hb : vs.length ≤ 10) (h : Q (.int (ns.length : Int) (s.toks + 1)) { s with toks := s.toks + 1 + 1 }) :
    wpAny (model prog w) A (call (.builtin "len") [.ref l]) Q E s := by
  have e : vs.toArray.size = ns.length := by rw [List.size_toArray, hi.length]
  refine len_list hl ?_ (by rw [e]; exact h)
  rw [List.size_toArray]; omega
theorem my_b {ys ws : List Value} {ms R : List Int} (a : ys.length ≤ (List.toArray ws).size) (h : IntsAre ws ms) (h2 : ms.length ≤ R.length) (h3 : R.length ≤ 10) : ys.length ≤ 10 := by
  rw [List.size_toArray, h.length] at a; omega
local macro_rules | `(tactic| walk_at "call builtin:len") => `(tactic| (k_here; (with_reducible show wpAny _ _ (call (Value.builtin "len") [Value.ref _]) _ _ _); k_dflt (refine' my_len ?k1 ?ki ?kb ?_; (case k1 => exact News.isList (by k_asm) (by k_mem)); (case ki => assumption); (case kb => exact my_b (by assumption) (by assumption) (by assumption) (by assumption)))))
theorem upd_self {m0 : Str → Option Value} {x : Str} {v : Value} (h : m0 x = some v) : m0 = fun y => if y = x then some v else m0 y := by
  funext y
  by_cases e : y = x
  · subst e; simp [h]
  · simp [e]
theorem pull4 {h₀ h : Heap} {L : Addr} {p1 p2 p3 p4 : Addr × Obj} {r : List (Addr × Obj)} (N : News h₀ L h (p1 :: p2 :: p3 :: p4 :: r)) : News h₀ L h (p4 :: p1 :: p3 :: r) := by
  refine cb_drop N fun p hp => ?_
  rcases List.mem_cons.mp hp with rfl | hp
  · exact .tail _ (.tail _ (.tail _ (.head _)))
  rcases List.mem_cons.mp hp with rfl | hp
  · exact .head _
  rcases List.mem_cons.mp hp with rfl | hp
  · exact .tail _ (.tail _ (.head _))
  exact .tail _ (.tail _ (.tail _ (.tail _ hp)))
theorem foldl_if (c : Int) : ∀ (xs acc : List Int), xs.foldl (fun l x => if x < c then l ++ [x] else l) acc = acc ++ xs.filter (fun x => decide (c > x))
  | [], acc => by simp
  | x :: xs, acc => by
    rw [List.foldl_cons, foldl_if c xs]
    by_cases h : x < c
    · simp [h]
    · simp [h]
theorem fal_step (R : List Int) {q : Nat} {k : Int} (hk : k = 0 + (q : Int)) : fal R (q + 1) = fal R q + ((List.foldl (fun l' k' => if k' < R.getD k.toNat 0 then l' ++ [k'] else l') [] (List.drop (k + 1).toNat R)).length : Int) := by
  have e1 : k.toNat = q := by omega
  have e2 : (k + 1).toNat = q + 1 := by omega
  rw [foldl_if, e1, e2]
  rfl
theorem pw_b {i j : Int} (h2 : 0 < j) (h3 : j ≤ 11) : ∀ q, 0 ≤ pw i j q ∧ pw i j q ≤ 11
  | 0 => by show (0 : Int) ≤ 1 ∧ (1 : Int) ≤ 11; decide
  | q + 1 => ⟨Int.emod_nonneg _ (by omega), by have := Int.emod_lt_of_pos (pw i j q * i) h2; show pw i j q * i % j ≤ 11; omega⟩
local macro_rules | `(tactic| walk_at "exec For Name Call cons nil") => `(tactic| (k_here; (with_reducible show wpAny _ _ (exec (Stmt.For (Expr.Name (PySem.Str.ofString "turn") _) _ _ [] _) _) _ _ _); k_dflt (refine For_C ?_ (by intro _; rfl))))
set_option maxRecDepth 100000 in
set_option maxHeartbeats 4000000 in
theorem sign_core {rest : List (Addr × Obj)} (hcb : (i, j) ∈ combos) (hB : Below A₀ base outer h₀) (hF : Fr h₀ L s.heap m) (hX : (hd.heap_39 w.params).In h₀) (hT : Top vw (looseW vw [Str.ofString "SnobolError"]) mean mg mb h₀) (hcs : cs.kind = .function) (hdp : dp + 20 < recursionLimit) (hun : un + 160 < cLine)
  (hN : News h₀ L s.heap ((x, instObj 286 d) :: (d, dictOf es n) :: rest)) (hW : getL (Str.ofString "width") es = some (some (.int 32 tw)))
  (hret : ∀ t h' tk', Fr h₀ L h' m → News h₀ L h' ((x, instObj 286 d) :: (d, dictOf es n) :: rest) → Q (.int (sgn i j) t) { s with heap := h', toks := tk' }) :
  wpAny (model PySem.Challenge.rw_xm0949_01.row.prog w) (ktrTop dp un gd cn cs L a ccd cl outer) (call (.ref 295) [.ref x, .int i ti, .int j tj]) Q E s := by
  have hfc := facts hcb
  have h0 := hfc.b.1
  have h1 := hfc.b.2.1
  have h2 := hfc.b.2.2.1
  have h3 := hfc.b.2.2.2
  revert hX
  k_fill
  intro hX
  refine wpAny_call ?_
  k_dflt (refine' code_defC ?k1 ?k2 ?k3 ?k4 ?k5 ?kA ?kF ?kK ?k6 ?k7 ?k8 ?k9 ?kB ?kD ?_ ?c2 ?c3 ?c4; (case kA => exact rfl); (case kF => exact rfl); (case kK => assumption); (case k1 => k_asm); (case k2 => k_asm); (case k3 => k_asm); (case k4 => k_asm); (case k5 => k_asm); (case k6 => k_is); (case k7 => k_is); (case k8 => k_room); (case k9 => exact BindsTo.of_eq rfl); (case kB => exact rfl); (case kD => decide +kernel); (case c2 => exact rfl); (case c3 => exact rfl); (case c4 => exact rfl); k_whole; intro g' L' h' tk' cells' FG' F' N' Y' B' X' T' l1; (try k_lt l1); k_cells Y'; (try simp only [List.cons_append, List.nil_append] at N'); (try dsimp only); (try k_lift B'); (try k_fold))
  have hR : AllLt L' rest := l1.2.2
  k_steps
  (rename IsRange _ _ _ _ _ _ _ _ => hR1)
  (rename Fr _ _ _ _ => hF1)
  (rename News _ _ _ ((_, LCg.lst _) :: _) => hN1)
  have hl2 : (List.map (fun k' => i * k' % j) (rangeKs 1 (j - 1).toNat)).length = (j - 1).toNat := by simp [rangeKs_length]
  unfold rowOf at hfc
  generalize List.map (fun k' => i * k' % j) (rangeKs 1 (j - 1).toNat) = R at *
  have hRl : R.length ≤ 10 := by omega
  refine' iter_CI (n := (j - 1).toNat) (y := Str.ofString "falls") (fal R) ?hh hR1 ?hsm ?hn ?hk ?hx ?hc hF1 (pull4 hN1) ?hd ?hcn rfl ?turn ?done
  case hh => rfl
  case hsm => rw [hl2]; exact small_one (by omega) (by omega) (by omega) (by omega)
  case hn => rw [hl2]; exact rangeSize_nat _ _
  case hk => rfl
  case hx => rfl
  case hc => rfl
  case hd => assumption
  case hcn =>
    repeat' (first | exact m_all hR (by omega) | refine List.forall_mem_cons.mpr ⟨?_, ?_⟩)
    all_goals k_ne
  case turn =>
    intro q k t tf h tk I oI oc' hq hk hdc F1 N1 hIc hnI
    have hk0 : 0 ≤ k := by omega
    have hk1 : k < (R.length : Int) := by omega
    clear hR1 hF1 hN1 hq hl2
    k_steps
    refine' turn_fin (by assumption) (by assumption) (by kcj_all) (by assumption) ⟨⟨_, ?val⟩, ?oth⟩
    case val => rw [fal_step R hk]; rfl
    case oth => intro z hz; simp only [if_neg hz]
  case done =>
    intro tf h tk oc' cv' hdc F1 N1
    clear hR1 hF1 hN1 hl2
    have hh0 : 0 ≤ (j - 1).fdiv 2 := by rw [Int.fdiv_eq_ediv_of_nonneg _ (by decide)]; omega
    have hh1 : (j - 1).fdiv 2 ≤ 5 := by rw [Int.fdiv_eq_ediv_of_nonneg _ (by decide)]; omega
    dsimp only
    k_steps
    (rename IsRange _ _ _ _ _ _ _ _ => hR1)
    (rename Fr _ _ _ _ => hF1)
    (rename News _ _ _ ((_, LCg.lst _) :: _) => hN1)
    refine' iter_LI (n := ((j - 1).fdiv 2).toNat) (y := Str.ofString "power") (pw i j) ?hh hR1 ?hsm ?hn ?hk ?hx hF1 hN1 rfl ?hxy ?turn2 ?done2
    case hh => rfl
    case hsm => exact small_one (by omega) (by omega) (by omega) (by omega)
    case hn =>
      have e : (j - 1).fdiv 2 = 0 + (((j - 1).fdiv 2).toNat : Int) := by omega
      rw [e]
      exact rangeSize_nat _ _
    case hk => rfl
    case hx => rfl
    case hxy => decide
    case turn2 =>
      intro q k t tf h tk I oI hq hk F1 N1 hnI
      clear hR1 hF1 hN1
      have hp0 := (pw_b (i := i) h2 h3 q).1
      have hp1 := (pw_b (i := i) h2 h3 q).2
      k_steps
      refine' turnL_fin (by assumption) (by assumption) (by kcj_all) ⟨⟨_, ?val2⟩, ?oth2⟩
      case val2 => rfl
      case oth2 => intro z hz hx; simp only [if_neg hz, if_neg hx]
    case done2 =>
      intro tf h tk u F1 N1
      clear hR1 hF1 hN1
      have hs1 : pw i j ((j - 1).fdiv 2).toNat = 1 → 1 = sgn i j := fun e => (if_pos e).symm
      have hs2 : pw i j ((j - 1).fdiv 2).toNat ≠ 1 → 0 - 1 = sgn i j := fun e => (if_neg e).symm
      dsimp only
      k_steps
      all_goals first
        | exact absurd (hfc.eq _ (by assumption) (by assumption)) (by assumption)
        | exact absurd hfc.par (by assumption)
        | exact absurd (hfc.any.symm.trans (by assumption)) (by decide)
        | exact absurd (hfc.sg.symm.trans (by assumption)) (by decide)
        | (refine' cb_retI (Q := Q) hret ?e1 ?e2 ?e3; (case e1 => first | exact hs1 (by assumption) | exact hs2 (by assumption)); (case e2 => k_asm); (case e3 => refine' cb_drop ?cbN ?cbS; (case cbN => assumption); (case cbS => kcj_all)))
end
end
end Mine
namespace Mine
section
open PySem PySem.Spec PySem.Calls PySem.W PyProof.Rows
def pairs : List (Int × Int) := [(3, 5), (3, 7), (3, 11), (5, 3), (5, 7), (5, 11), (7, 3), (7, 5), (7, 11), (11, 3), (11, 5), (11, 7)]
section
variable {w : World} {mean : ExcName → Option Value} {mg mb : Str → Option Value} {dp un : Nat} {gd : Option (List Code)} {cn : Str} {cs : Scope} {a : Addr} {ccd : Value} {cl : List (Str × Addr)} {outer : List Env} {A₀ : Around} {base h₀ : Heap} {L : Addr} {m : Str → Option Value} {s : Shared} {Q E : Value → Shared → Prop} {x d l : Addr} {es : List DictEntry} {n : Nat} {i j : Int} {ti tj tw to : Tok}
theorem sign_use {news : List (Addr × Obj)} (hcb : (i, j) ∈ combos) (hB : Below A₀ base outer h₀) (hF : Fr h₀ L s.heap m) (hX : (hd.heap_39 w.params).In h₀) (hT : Top vw (looseW vw [Str.ofString "SnobolError"]) mean mg mb h₀) (hcs : cs.kind = .function) (hdp : dp + 20 < recursionLimit) (hun : un + 160 < cLine)
  (hN : News h₀ L s.heap news) (hx : (x, instObj 286 d) ∈ news) (hd : (d, dictOf es n) ∈ news) (hW : getL (Str.ofString "width") es = some (some (.int 32 tw)))
  (hret : ∀ t h' tk', Fr h₀ L h' m → News h₀ L h' news → Q (.int (sgn i j) t) { s with heap := h', toks := tk' }) :
  wpAny (model PySem.Challenge.rw_xm0949_01.row.prog w) (ktrTop dp un gd cn cs L a ccd cl outer) (call (.ref 295) [.ref x, .int i ti, .int j tj]) Q E s :=
  sign_core (rest := news) hcb hB hF hX hT hcs hdp hun (cb_drop hN (cons2 hx hd)) hW
    fun t h' tk' F N => hret t h' tk' F (cb_drop N fun p hp => .tail _ (.tail _ hp))
end
theorem pick4 {prog : Program} {w : World} {A : Around} {E : Value → Shared → Prop} {s : Shared} {value slice : PySem.Expr} {l : Addr} {t1 t2 t3 t4 : Tok} {c : Int} {u : Tok} {Q : Value → Shared → Prop}
    (hl : s.heap.IsList l [Value.int 3 t1, Value.int 5 t2, Value.int 7 t3, Value.int 11 t4].toArray) (h : ∀ f t, (f = 3 ∨ f = 5 ∨ f = 7 ∨ f = 11) → Q (.int f t) s)
    (hs : subscripted slice false (.ref l) (.int (c.fmod 4) u) = operate [.ref l, .int (c.fmod 4) u] (getItem (.ref l) (.int (c.fmod 4) u))) :
    wpAny (model prog w) A (subscriptTail value slice (.ref l) (.int (c.fmod 4) u)) Q E s := by
  have b0 : 0 ≤ c.fmod 4 := by rw [Int.fmod_eq_emod_of_nonneg _ (by decide)]; omega
  have b1 : c.fmod 4 < 4 := by rw [Int.fmod_eq_emod_of_nonneg _ (by decide)]; omega
  refine my_item (ns := [3, 5, 7, 11]) hl (.cons _ _ (.cons _ _ (.cons _ _ (.cons _ _ .nil)))) b0 b1 (by decide) (fun t => h _ t ?_) hs
  generalize c.fmod 4 = k at b0 b1
  have : k = 0 ∨ k = 1 ∨ k = 2 ∨ k = 3 := by omega
  rcases this with rfl | rfl | rfl | rfl <;> decide
local macro_rules | `(tactic| walk_at "subscriptTail Name BinOp ref int") => `(tactic| (k_here; (with_reducible show wpAny _ _ (subscriptTail _ _ (Value.ref _) (Value.int (Int.fmod _ 4) _)) _ _ _); k_dflt (refine' pick4 ?k1 ?_ ?k6; (case k1 => exact News.isList (by k_asm) (by k_mem)); (case k6 => with_unfolding_all rfl)); intro f9 t9 hf9))
theorem slim {h₀ h : Heap} {L : Addr} {m : Str → Option Value} {news : List (Addr × Obj)} {x d p c q : Addr} {es : List DictEntry} {n : Nat} {tw : Tok} {op oc oq : Obj} {G : Prop}
    (_F : Fr h₀ L h m) (N : News h₀ L h news) (_h1 : m (Str.ofString "world") = some (.ref x)) (_h2 : m (Str.ofString "primes") = some (.ref p)) (_h3 : m (Str.ofString "cells") = some (.ref c)) (_h4 : q = L + 1)
    (hx : (x, instObj 286 d) ∈ news) (hd : (d, dictOf es n) ∈ news) (hW : getL (Str.ofString "width") es = some (some (.int 32 tw))) (hp : (p, op) ∈ news) (hc : (c, oc) ∈ news) (hq : (q, oq) ∈ news)
    (K : ∀ es n tw, getL (Str.ofString "width") es = some (some (.int 32 tw)) → News h₀ L h [(p, op), (c, oc), (q, oq), (x, instObj 286 d), (d, dictOf es n)] → G) : G :=
  K es n tw hW fun z hz => by
    simp only [List.mem_cons, List.not_mem_nil, or_false] at hz
    rcases hz with rfl | rfl | rfl | rfl | rfl
    · exact N _ hp
    · exact N _ hc
    · exact N _ hq
    · exact N _ hx
    · exact N _ hd
local macro_rules | `(tactic| walk_at "eval Subscript ListComp BinOp") => `(tactic| (k_here; (with_reducible rename News _ _ _ _ => nE'); (with_reducible rename Fr _ _ _ _ => fE'); k_dflt (refine' slim fE' nE' rfl rfl rfl rfl ?hx ?hd ?hW ?hp ?hc ?hq ?_; (case hx => k_mem); (case hd => k_mem); (case hW => k_get); (case hp => k_mem); (case hc => k_mem); (case hq => k_mem)); clear nE'; intro es9 n9 tw9 hW9 N9; walk_at "eval Subscript"))
local macro_rules | `(tactic| walk_at "eval ListComp") => `(tactic| (k_here; lct_look; k_dflt (refine LCt.ListComp_T (F₀ := by k_asm) (by with_unfolding_all rfl) (by decide) (by rfl) (by decide) (by rfl) ?_)))
local macro_rules | `(tactic| walk_at "CompSrcT") => `(tactic| (k_here; k_dflt (refine LCt.CompSrcT.ledger (by rfl) (by k_asm) (by k_asm) (by k_mem) (by exact Nat.le_of_ble_eq_true rfl) ?_; intro g'; (refine' kci_list (ns := [3, 5, 7, 11]) _ (.cons _ _ (.cons _ _ (.cons _ _ (.cons _ _ .nil)))) (fun k' t' I' oI' C' oC' D' m' ys' l' h' tk' E' hk' hI' hC' hx' F' N' off' ne' => ?_) ?_ ?_); (all_goals (try (simp only [LCg.Off3, and_true] at off'))); (all_goals (try ((show KPfMark → _); intro hMark'))); kcf_last)))
local macro_rules | `(tactic| walk_at "CompEnd") => `(tactic| (goal_has PySem.W.KCiNo PySem.W.KCiEl; kpf_tidy; k_dflt (first
  | (refine cend_no (by assumption) (by assumption) (by kcf_all) (by first | assumption | (simp only [LCg.Off3, and_true]; assumption)) (by lcg_src) ?kce; (case kce => kpf_eq))
  | (refine cend_el (by assumption) (by assumption) (by kcf_all) (by first | assumption | (simp only [LCg.Off3, and_true]; assumption)) (by lcg_src) ?kce; (case kce => kpf_eq)))))
theorem pick3 {prog : Program} {w : World} {A : Around} {E : Value → Shared → Prop} {s : Shared} {value slice : PySem.Expr} {l : Addr} {vs : List Value} {M : List Int} {c f : Int} {u : Tok} {Q : Value → Shared → Prop}
    (hl : s.heap.IsList l vs.toArray) (hi : IntsAre vs M) (hM : M.length = 3 ∧ ∀ z ∈ M, (f, z) ∈ pairs) (h : ∀ g t, (f, g) ∈ pairs → Q (.int g t) s)
    (hs : subscripted slice false (.ref l) (.int (c.fmod 3) u) = operate [.ref l, .int (c.fmod 3) u] (getItem (.ref l) (.int (c.fmod 3) u))) :
    wpAny (model prog w) A (subscriptTail value slice (.ref l) (.int (c.fmod 3) u)) Q E s := by
  have b0 : 0 ≤ c.fmod 3 := by rw [Int.fmod_eq_emod_of_nonneg _ (by decide)]; omega
  have b1 : c.fmod 3 < 3 := by rw [Int.fmod_eq_emod_of_nonneg _ (by decide)]; omega
  refine my_item hl hi b0 (by rw [hM.1]; exact b1) (by rw [hM.1]; decide) (fun t => h _ t (hM.2 _ ?_)) hs
  have hlt : (c.fmod 3).toNat < M.length := by rw [hM.1]; omega
  rw [List.getD_eq_getElem?_getD, List.getElem?_eq_getElem hlt]
  exact List.getElem_mem hlt
local macro_rules | `(tactic| walk_at "call ref") => `(tactic| (k_here; (with_reducible show wpAny _ _ (call (Value.ref 295) [Value.ref _, Value.int _ _, Value.int _ _]) _ _ _); k_dflt (refine' sign_use ?z0 ?k1 ?k2 ?k3 ?k4 ?k5 ?k6 ?k7 ?k8 ?m2 ?m3 ?m4 ?_; (case k1 => k_asm); (case k2 => k_asm); (case k3 => k_asm); (case k4 => k_asm); (case k5 => first | exact rfl | assumption); (case k6 => ktr_room); (case k7 => ktr_units); (case k8 => k_asm); (case m2 => k_mem); (case m3 => k_mem); (case m4 => assumption); (case z0 => assumption); k_whole); intro t9 h9 tk9 F9 N9; (try dsimp only); (try k_sweep); (try k_fold)))
theorem pair_all : ∀ p ∈ pairs, 0 < p.1 ∧ p.1 ≤ 11 ∧ 0 < p.2 ∧ p.2 ≤ 11 := by decide
theorem pair_b {f g : Int} (h : (f, g) ∈ pairs) : 0 < f ∧ f ≤ 11 ∧ 0 < g ∧ g ≤ 11 := pair_all (f, g) h
theorem m3 {f : Int} (hf : f = 3 ∨ f = 5 ∨ f = 7 ∨ f = 11) : (List.foldl (fun (l' : List Int) k' => if ¬k' = f then l' ++ [k'] else l') [] [3, 5, 7, 11]).length = 3 ∧ ∀ z ∈ List.foldl (fun (l' : List Int) k' => if ¬k' = f then l' ++ [k'] else l') [] [3, 5, 7, 11], (f, z) ∈ pairs := by
  rcases hf with rfl | rfl | rfl | rfl <;> decide
local macro_rules | `(tactic| walk_at "subscriptTail ListComp Name cons BinOp ref int") => `(tactic| (k_here; (with_reducible show wpAny _ _ (subscriptTail _ _ (Value.ref _) (Value.int (Int.fmod _ 3) _)) _ _ _); k_dflt (refine' pick3 ?k1 ?ki ?km ?_ ?k6; (case k1 => exact News.isList (by k_asm) (by k_mem)); (case ki => assumption); (case km => first | exact m3 (by assumption)); (case k6 => with_unfolding_all rfl)); intro g9 t9 hg9; (have hL9 := law_end _ hg9); (have hL1 := hL9.1); (have hL2 := hL9.2.1); (have hL3 := hL9.2.2); (have hp9 := pair_b hg9); clear hL9; dsimp only at hL1 hL2 hL3))
local macro_rules | `(tactic| walk_at "subscriptTail Name Slice ref ref") => `(tactic| (k_here; (with_reducible show wpAny _ _ (subscriptTail _ (PySem.Expr.Slice (some _) none none _) (Value.ref _) (Value.ref _)) _ _ _); k_dflt (refine' kmk_slice_ints ?F ?N ?l ?p ?q ?i ?m ?c ?_ ?s ?t ?z; (case F => k_asm); (case N => k_asm); (case l => kmk_list); (case p => kmk_part); (case q => kmk_part); (case i => l_ints); (case m => exact kmk_from (by l_ints) (by kmk_sign)); (case c => exact List.length_drop ..); (case s => with_unfolding_all rfl); (case t => kmk_pure); (case z => kmk_size)); intro D' ws' h' F' N' l1 hI' hC' hL'; (try simp only [Int.reduceNeg, Int.neg_neg, Int.reduceToNat] at hI' hC' hL'); (try k_lt l1); (try k_sweep)))
set_option maxRecDepth 100000 in
set_option maxHeartbeats 8000000 in
theorem cw : PySem.Challenge.rw_xm0949_01.Holds := hd (by
  w_strict (k_go0; (all_goals try k_fold); k_steps))
end
end Mine
theorem PySem.Challenge.cw_xm0949_01_holds : PySem.Challenge.rw_xm0949_01.Holds := by
  exact Mine.cw
