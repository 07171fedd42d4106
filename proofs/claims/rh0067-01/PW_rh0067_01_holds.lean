import PyProof.Rows.All
import Wide.All
import OpenK.AllK
import Wide.FinOn
import PySem.Challenge.RW_rh0067_01
open PyProof.Rows
set_option Elab.async false
set_option maxRecDepth 100000
set_option maxHeartbeats 8000000
section
open PySem PySem.W PyProof.Rows
namespace Mine
def kept (l : List Stmt) : List Stmt := (((l.eraseIdx 17).eraseIdx 13).eraseIdx 9).eraseIdx 1
def viewS : { l : List Stmt // l = kept PySem.Challenge.pw_rh0067_01.main.body } := by
  refine' ⟨[_, _, _, _, _, _, _, _, _, _, _, _, _, _, _, _, _, _, _, _, _], ?_⟩
  rotate_left 21
  exact rfl
def view : Program := { PySem.Challenge.pw_rh0067_01 with main := { PySem.Challenge.pw_rh0067_01.main with body := viewS.1 } }
local macro_rules | `(tactic| o_head $H:term) => `(tactic| (refine' holds_open (q := view) (loose := []) (Xt := fun s => xlAt view [] s && recOk (RowW.records PySem.Challenge.rw_rh0067_01.row.toRowW) s) (XP := XL view []) (Yf := Hook.obs $H) (Ya := Hook.val $H) (YP := Hook.says $H) (N := 3194) ?hl (Hook.of $H) (Hook.keeps $H) (fun s e => xl_of s (Bool.and_eq_true_iff.mp e).1) XL.keeps (by rfl) (by rfl) (by rfl) (fun s e => recFacts_of (Bool.and_eq_true_iff.mp e).2) (by rfl) (by first | assumption | decide +kernel) (by decide +kernel) ⟨rfl, rfl, rfl, rfl, rfl, by decide +kernel⟩ ?hw ?hc; (case hl => (intro w; unfold openEnds fencedOpening topFrom; rewrite [PySem.W.Fast.te10274390034422433532, PySem.W.Fast.te14364793385576792824, PySem.W.Fast.te1435165496053646825, PySem.W.Fast.te14289696077712309145, PySem.W.Fast.te14082659384304107361, PySem.W.Fast.te4187177175401517315]; kernel_rfl))))
open_top hd for PySem.Challenge.rw_rh0067_01
end Mine
end
local macro_rules | `(tactic| walk_at "CompEnd") => `(tactic| k_extra "own CompEnd")
local macro_rules | `(tactic| walk_at "CompSrc") => `(tactic| k_extra "own CompSrc")
local macro_rules | `(tactic| walk_at "MapEnd") => `(tactic| k_extra "own MapEnd")
local macro_rules | `(tactic| walk_at "NoEnd") => `(tactic| k_extra "own NoEnd")
local macro_rules | `(tactic| walk_at "RaisableO") => `(tactic| k_extra "own RaisableO")
local macro_rules | `(tactic| walk_at "TwPost") => `(tactic| k_extra "own TwPost")
local macro_rules | `(tactic| walk_at "UnrEnd") => `(tactic| k_extra "own UnrEnd")
local macro_rules | `(tactic| walk_at "WgPost") => `(tactic| k_extra "own WgPost")
local macro_rules | `(tactic| k_all) => `(tactic| k_extra "own all")
local macro_rules | `(tactic| walk_at "binaryOp FloorDiv int int") => `(tactic| k_extra "own binaryOp FloorDiv int int")
local macro_rules | `(tactic| walk_at "binaryOp Mult int int") => `(tactic| k_extra "own binaryOp Mult int int")
local macro_rules | `(tactic| walk_at "call builtin:dict.get") => `(tactic| k_extra "own call builtin:dict.get")
local macro_rules | `(tactic| walk_at "call builtin:len") => `(tactic| k_extra "own call builtin:len")
local macro_rules | `(tactic| walk_at "call builtin:list.append") => `(tactic| k_extra "own call builtin:list.append")
local macro_rules | `(tactic| walk_at "call ref") => `(tactic| k_extra "own call ref")
local macro_rules | `(tactic| walk_at "compareOp Eq ref ref") => `(tactic| k_extra "own compareOp Eq ref ref")
local macro_rules | `(tactic| walk_at "compareOp NotEq ref ref") => `(tactic| k_extra "own compareOp NotEq ref ref")
local macro_rules | `(tactic| walk_at "eval Call") => `(tactic| k_extra "own eval Call")
local macro_rules | `(tactic| walk_at "exec For Name Name cons nil") => `(tactic| k_extra "own exec For Name Name cons nil")
local macro_rules | `(tactic| walk_at "exec Raise some none") => `(tactic| k_extra "own exec Raise some none")
local macro_rules | `(tactic| walk_at "exec Return some") => `(tactic| k_extra "own exec Return some")
local macro_rules | `(tactic| walk_at "execs cons") => `(tactic| k_extra "own execs cons")
local macro_rules | `(tactic| walk_at "getAttr ref") => `(tactic| k_extra "own getAttr ref")
local macro_rules | `(tactic| walk_at "getMethod ref") => `(tactic| k_extra "own getMethod ref")
local macro_rules | `(tactic| walk_at "ite") => `(tactic| k_extra "own ite")
local macro_rules | `(tactic| walk_at "leaving ref") => `(tactic| k_extra "own leaving ref")
local macro_rules | `(tactic| k_mem) => `(tactic| k_extra "own mem")
local macro_rules | `(tactic| walk_at "noteFrame ref") => `(tactic| k_extra "own noteFrame ref")
local macro_rules | `(tactic| walk_at "pyIter ref") => `(tactic| k_extra "own pyIter ref")
local macro_rules | `(tactic| walk_at "setItem ref ref") => `(tactic| k_extra "own setItem ref ref")
local macro_rules | `(tactic| walk_at "setItem ref str") => `(tactic| k_extra "own setItem ref str")
local macro_rules | `(tactic| walk_at "subscriptTail") => `(tactic| k_extra "own subscriptTail")
theorem Mine.calm_B1 : True ∧ True := by
  w_top off
  k_with_none
  (try walk1)
  all_goals trivial
section
open PySem PySem.W PySem.Calls PySem.Spec PyProof.Rows
namespace Mine
theorem wpAny_wk {α : Type} {M : Model} {A A' : Around} {t : Sem α} {Q : α → Shared → Prop} {E : Value → Shared → Prop} {s : Shared}
    (hh : A.handled = A'.handled) (hd : A.depth ≤ A'.depth) (hf : A'.frames = A.frames) (hg : A'.guards = none) (hu : A.units ≤ A'.units) (h : wpAny M A' t Q E s) : wpAny M A t Q E s :=
  fun Γ p hΓ => h Γ p ⟨hΓ.1.trans hh, Nat.le_trans hΓ.2.1 hd, fun l hl => hΓ.2.2.1 l (hf ▸ hl), ⟨fun g hg' => (by rw [hg] at hg'; cases hg'), Nat.le_trans hΓ.2.2.2.2 hu⟩⟩
/-- the draw -/
theorem draw_spec {w : World} {p : Program} {loose : List Str} {mean : ExcName → Option Value} {mg mb : Str → Option Value}
    (cn : Str) (cs : Scope) (L a : Addr) (ccd : Value) (cl : List (Str × Addr)) (outer : List Env) (A₀ : Around) (base h₀ : Heap) (m : Str → Option Value)
    (pa q : Addr) (d i k : Int) (t1 t2 t3 : Tok) (n n2 : Nat) (vs : List Value) (ns : List Int) (rest : List (Addr × Obj)) (lim : Int) (tl : Tok) (s : Shared) (Q E : Value → Shared → Prop)
    (B : Below A₀ base outer h₀) (F : Fr h₀ L s.heap m) (X : (hd.heap_39 w.params).In h₀) (T : Top p loose mean mg mb h₀) (hk : cs.kind = .function)
    (N : News h₀ L s.heap ((pa, listOf #[.ref q, .int d t1, .int i t2, .int k t3] n) :: (q, listOf vs.toArray n2) :: rest))
    (hI : IntsAre vs ns) (hlen : ns.length ≤ 63) (hqp : @Ne Nat q pa) (hne : ∀ x ∈ rest, x.1 ≠ pa) (hi : -1 ≤ i) (hl : 0 < lim) (hlb : lim.natAbs.log2 < 9000)
    (ret : ∀ (v : Int) (tv : Tok) (d i k : Int) (t1 t2 t3 : Tok) (n : Nat) (h' : Heap) (tk' : Nat), 0 ≤ v → v < lim → -1 ≤ i → Fr h₀ L h' m →
      News h₀ L h' ((pa, listOf #[.ref q, .int d t1, .int i t2, .int k t3] n) :: (q, listOf vs.toArray n2) :: rest) → Q (.int v tv) { s with heap := h', toks := tk' }) :
    wpAny (model PySem.Challenge.rw_rh0067_01.row.prog w) (ktrTop 500 1000 none cn cs L a ccd cl outer) (call (.ref 207) [.ref pa, .int lim tl]) Q E s := by
  k_with_none
  k_with "own all" => assumption
  k_with "own binaryOp FloorDiv int int" => ((rename (Int.natAbs _).log2 < 9000 => hlb'); refine floordiv_int (by omega) ?_ (Or.inl (PyProof.noPylong_of_log2 hlb')))
  revert X; k_fill; intro X
  refine wpAny_call ?_
  k_dflt cell_enter
  k_steps
  all_goals (refine' ret _ _ _ _ _ _ _ _ _ _ _ (Int.fmod_nonneg_of_pos _ hl) (Int.fmod_lt_of_pos _ hl) ?hi ?hF ?hN; (case hN => assumption); (case hF => assumption); (case hi => omega))
end Mine
end
theorem Mine.calm_B2 : True ∧ True := by
  w_top off
  k_with_none
  (try walk1)
  all_goals trivial
section
open PySem PySem.W PySem.Calls PySem.Spec PyProof.Rows
namespace Mine
theorem whole_spec {w : World} {p : Program} {loose : List Str} {mean : ExcName → Option Value} {mg mb : Str → Option Value}
    (cn : Str) (cs : Scope) (L a : Addr) (ccd : Value) (cl : List (Str × Addr)) (outer : List Env) (A₀ : Around) (base h₀ : Heap) (m : Str → Option Value)
    (pa q : Addr) (d i k : Int) (t1 t2 t3 : Tok) (n n2 : Nat) (vs : List Value) (ns : List Int) (rest : List (Addr × Obj)) (s : Shared) (Q E : Value → Shared → Prop)
    (B : Below A₀ base outer h₀) (F : Fr h₀ L s.heap m) (X : (hd.heap_39 w.params).In h₀) (T : Top p loose mean mg mb h₀) (hk : cs.kind = .function)
    (N : News h₀ L s.heap ((pa, listOf #[.ref q, .int d t1, .int i t2, .int k t3] n) :: (q, listOf vs.toArray n2) :: rest))
    (hI : IntsAre vs ns) (hlen : ns.length ≤ 63) (hqp : @Ne Nat q pa) (hne : ∀ x ∈ rest, x.1 ≠ pa) (hi : -1 ≤ i)
    (ret : ∀ (v : Int) (tv : Tok) (d i k : Int) (t1 t2 t3 : Tok) (n : Nat) (h' : Heap) (tk' : Nat), v.natAbs ≤ 5 * 10 ^ 39 → -1 ≤ i → Fr h₀ L h' m →
      News h₀ L h' ((pa, listOf #[.ref q, .int d t1, .int i t2, .int k t3] n) :: (q, listOf vs.toArray n2) :: rest) → Q (.int v tv) { s with heap := h', toks := tk' }) :
    wpAny (model PySem.Challenge.rw_rh0067_01.row.prog w) (ktrTop 450 800 none cn cs L a ccd cl outer) (call (.ref 214) [.ref pa]) Q E s := by
  k_with_none
  k_with "own all" => assumption
  k_with "own call ref" => ((with_reducible show wpAny _ _ (call (Value.ref 207) [Value.ref _, Value.int _ _]) _ _ _); k_dflt (refine' wpAny_wk ?zzw1 ?zzw2 ?zzw3 ?zzw4 ?zzw5 (draw_spec _ _ _ _ _ _ _ _ _ _ _ _ _ _ _ _ _ _ _ _ _ _ _ _ _ _ _ _ _ ?zzB ?zzF ?zzX ?zzT ?zzhk ?zzN ?zzhI ?zzhl ?zzhqp ?zzhne ?zzhi ?zzh0 ?zzhlb ?_); (case zzB => k_asm); (case zzF => k_asm); (case zzN => k_asm); (case zzw3 => exact rfl); (case zzX => k_asm); (case zzT => k_asm); (case zzhk => first | exact rfl | assumption); (case zzw1 => exact rfl); (case zzw2 => exact Nat.le_of_ble_eq_true rfl); (case zzw4 => exact rfl); (case zzw5 => exact Nat.le_of_ble_eq_true rfl); (case zzhI => assumption); (case zzhl => assumption); (case zzhqp => assumption); (case zzhne => assumption); (case zzhi => assumption); (case zzh0 => decide); (case zzhlb => decide +kernel)); intro _ _ _ _ _ _ _ _ _ _ _ _ _ _ _ _; (try dsimp only); (try k_sweep))
  revert X; k_fill; intro X
  refine wpAny_call ?_
  k_dflt cell_enter
  k_steps
  all_goals (refine' ret _ _ _ _ _ _ _ _ _ _ _ ?hv ?hi ?hF ?hN; (case hN => assumption); (case hF => assumption); (case hi => assumption); (case hv => (simp only [show (Int.toNat 40) = 40 from rfl, show (Int.toNat 39) = 39 from rfl] at *; omega)))
theorem pow10_ok {v : Int} (h0 : 0 ≤ v) (h1 : v < 9) : (10 : Int) ^ v.toNat ≠ 0 ∧ ((10 : Int) ^ v.toNat).natAbs ≤ 10 ^ 8 := by
  have h : v.toNat = 0 ∨ v.toNat = 1 ∨ v.toNat = 2 ∨ v.toNat = 3 ∨ v.toNat = 4 ∨ v.toNat = 5 ∨ v.toNat = 6 ∨ v.toNat = 7 ∨ v.toNat = 8 := by omega
  rcases h with h | h | h | h | h | h | h | h | h <;> rw [h] <;> decide
theorem radix_spec {w : World} {p : Program} {loose : List Str} {mean : ExcName → Option Value} {mg mb : Str → Option Value}
    (cn : Str) (cs : Scope) (L a : Addr) (ccd : Value) (cl : List (Str × Addr)) (outer : List Env) (A₀ : Around) (base h₀ : Heap) (m : Str → Option Value)
    (pa q : Addr) (d i k : Int) (t1 t2 t3 : Tok) (n n2 : Nat) (vs : List Value) (ns : List Int) (rest : List (Addr × Obj)) (s : Shared) (Q E : Value → Shared → Prop)
    (B : Below A₀ base outer h₀) (F : Fr h₀ L s.heap m) (X : (hd.heap_39 w.params).In h₀) (T : Top p loose mean mg mb h₀) (hk : cs.kind = .function)
    (N : News h₀ L s.heap ((pa, listOf #[.ref q, .int d t1, .int i t2, .int k t3] n) :: (q, listOf vs.toArray n2) :: rest))
    (hI : IntsAre vs ns) (hlen : ns.length ≤ 63) (hqp : @Ne Nat q pa) (hne : ∀ x ∈ rest, x.1 ≠ pa) (hi : -1 ≤ i)
    (ret : ∀ (v : Int) (tv : Tok) (d i k : Int) (t1 t2 t3 : Tok) (n : Nat) (h' : Heap) (tk' : Nat), v ≠ 0 → v.natAbs ≤ 10 ^ 8 → -1 ≤ i → Fr h₀ L h' m →
      News h₀ L h' ((pa, listOf #[.ref q, .int d t1, .int i t2, .int k t3] n) :: (q, listOf vs.toArray n2) :: rest) → Q (.int v tv) { s with heap := h', toks := tk' }) :
    wpAny (model PySem.Challenge.rw_rh0067_01.row.prog w) (ktrTop 450 800 none cn cs L a ccd cl outer) (call (.ref 221) [.ref pa]) Q E s := by
  k_with_none
  k_with "own all" => assumption
  k_with "own call ref" => ((with_reducible show wpAny _ _ (call (Value.ref 207) [Value.ref _, Value.int _ _]) _ _ _); k_dflt (refine' wpAny_wk ?zzw1 ?zzw2 ?zzw3 ?zzw4 ?zzw5 (draw_spec _ _ _ _ _ _ _ _ _ _ _ _ _ _ _ _ _ _ _ _ _ _ _ _ _ _ _ _ _ ?zzB ?zzF ?zzX ?zzT ?zzhk ?zzN ?zzhI ?zzhl ?zzhqp ?zzhne ?zzhi ?zzh0 ?zzhlb ?_); (case zzB => k_asm); (case zzF => k_asm); (case zzN => k_asm); (case zzw3 => exact rfl); (case zzX => k_asm); (case zzT => k_asm); (case zzhk => first | exact rfl | assumption); (case zzw1 => exact rfl); (case zzw2 => exact Nat.le_of_ble_eq_true rfl); (case zzw4 => exact rfl); (case zzw5 => exact Nat.le_of_ble_eq_true rfl); (case zzhI => assumption); (case zzhl => assumption); (case zzhqp => assumption); (case zzhne => assumption); (case zzhi => assumption); (case zzh0 => decide); (case zzhlb => decide +kernel)); intro _ _ _ _ _ _ _ _ _ _ _ _ _ _ _ _; (try dsimp only); (try k_sweep))
  revert X; k_fill; intro X
  refine wpAny_call ?_
  k_dflt cell_enter
  k_steps
  all_goals (refine' ret _ _ _ _ _ _ _ _ _ _ _ ?hv ?hw ?hi ?hF ?hN; (case hN => assumption); (case hF => assumption); (case hi => assumption); (case hv => (first | exact (pow10_ok (by assumption) (by assumption)).1 | (simp only [show (Int.toNat 6) = 6 from rfl] at *; omega))); (case hw => (first | exact (pow10_ok (by assumption) (by assumption)).2 | (simp only [show (Int.toNat 6) = 6 from rfl] at *; omega))))
end Mine
end
theorem Mine.calm_M1 : True ∧ True := by
  w_top off
  k_with_none
  (try walk1)
  all_goals trivial
section
open PySem PySem.W PySem.Calls PySem.Spec PyProof.Rows
namespace Mine
/-- an int of no more than a thousand bits -/
def Sm (x : Int) : Prop := x.natAbs < 2 ^ 1000
theorem sm_of {x : Int} (n : Nat) (h : x.natAbs ≤ n) (hn : n.blt (2 ^ 1000) = true := by decide +kernel) : Sm x := Nat.lt_of_le_of_lt h (Nat.le_of_ble_eq_true hn)
theorem Sm.log {x : Int} (h : Sm x) : x.natAbs.log2 < 9000 := by
  by_cases h0 : x.natAbs = 0
  · rw [h0]; decide +kernel
  · exact Nat.lt_of_lt_of_le ((Nat.log2_lt h0).mpr h) (by decide)
theorem Sm.neg {x : Int} (h : Sm x) : Sm (-x) := by unfold Sm at *; rwa [Int.natAbs_neg]
theorem Sm.abs {x : Int} (h : Sm x) : Sm (if x < 0 then -x else x) := by split; exact h.neg; exact h
theorem Sm.le {x y : Int} (h : Sm y) (e : x.natAbs ≤ y.natAbs) : Sm x := Nat.lt_of_le_of_lt e h
theorem Sm.bits {x : Int} (h : Sm x) : Builtin.Int.intBits x ≤ 1000 := by
  unfold Builtin.Int.intBits
  split
  · exact Nat.zero_le _
  · rename_i h0
    have h0' : x.natAbs ≠ 0 := by simpa using h0
    exact (Nat.log2_lt h0').mpr h
theorem Sm.mul {x y : Int} (h : Sm x) (h' : Sm y) : IntMulOk x y := PySem.IntMulOk.of_le h.bits h'.bits (by decide)
end Mine
end
theorem Mine.calm_B3 : True ∧ True := by
  w_top off
  k_with_none
  (try walk1)
  all_goals trivial
section
open PySem PySem.W PySem.Calls PySem.Spec PyProof.Rows
namespace Mine
theorem tdz_neg {x y : Int} (h : (decide (x < 0) != decide (y < 0)) = true) : -(if x < 0 then -x else x).fdiv (if y < 0 then -y else y) = x.tdiv y := by
  by_cases hx : x < 0 <;> by_cases hy : y < 0 <;> simp only [hx, hy, decide_true, decide_false, bne_self_eq_false, if_true, if_false] at h ⊢
  · cases h
  · rw [Int.fdiv_eq_ediv_of_nonneg _ (by omega), ← Int.tdiv_eq_ediv_of_nonneg (by omega), Int.neg_tdiv, Int.neg_neg]
  · rw [Int.fdiv_eq_ediv_of_nonneg _ (by omega), ← Int.tdiv_eq_ediv_of_nonneg (by omega), Int.tdiv_neg, Int.neg_neg]
  · cases h
theorem tdz_pos {x y : Int} (h : (decide (x < 0) != decide (y < 0)) = false) : (if x < 0 then -x else x).fdiv (if y < 0 then -y else y) = x.tdiv y := by
  by_cases hx : x < 0 <;> by_cases hy : y < 0 <;> simp only [hx, hy, decide_true, decide_false, bne_self_eq_false, if_true, if_false] at h ⊢
  · rw [Int.fdiv_eq_ediv_of_nonneg _ (by omega), ← Int.tdiv_eq_ediv_of_nonneg (by omega), Int.neg_tdiv, Int.tdiv_neg, Int.neg_neg]
  · cases h
  · cases h
  · rw [Int.fdiv_eq_ediv_of_nonneg _ (by omega), ← Int.tdiv_eq_ediv_of_nonneg (by omega)]
theorem divide_spec {w : World} {p : Program} {loose : List Str} {mean : ExcName → Option Value} {mg mb : Str → Option Value}
    (cn : Str) (cs : Scope) (L a : Addr) (ccd : Value) (cl : List (Str × Addr)) (outer : List Env) (A₀ : Around) (base h₀ : Heap) (m : Str → Option Value)
    (news : List (Addr × Obj)) (x y : Int) (tx ty : Tok) (s : Shared) (Q E : Value → Shared → Prop)
    (B : Below A₀ base outer h₀) (F : Fr h₀ L s.heap m) (X : (hd.heap_39 w.params).In h₀) (T : Top p loose mean mg mb h₀) (hk : cs.kind = .function) (N : News h₀ L s.heap news)
    (hx : Sm x) (hy : Sm y) (hy0 : y ≠ 0)
    (ret : ∀ (t : Tok) (h' : Heap) (tk' : Nat), Fr h₀ L h' m → News h₀ L h' news → Q (.int (x.tdiv y) t) { s with heap := h', toks := tk' }) :
    wpAny (model PySem.Challenge.rw_rh0067_01.row.prog w) (ktrTop 500 1000 none cn cs L a ccd cl outer) (call (.ref 186) [.int x tx, .int y ty]) Q E s := by
  k_with_none
  k_with "own all" => assumption
  k_with "own binaryOp FloorDiv int int" => (k_dflt (refine floordiv_int ?zzne ?_ (Or.inl (PyProof.noPylong_of_log2 ?zzlg)); (case zzlg => first | exact Sm.log (by assumption) | exact Sm.log (Sm.abs (by assumption))); (case zzne => first | assumption | (split <;> omega))))
  k_with "own binaryOp Mult int int" => (k_dflt (refine mul_int ?_ (Sm.mul ?zzx ?zzy); (case zzx => assumption); (case zzy => assumption)))
  revert X; k_fill; intro X
  refine wpAny_call ?_
  k_dflt cell_enter
  k_steps
  · rw [tdz_neg (by assumption)]; exact ret _ _ _ (by assumption) (by assumption)
  · rw [tdz_pos (by assumption)]; exact ret _ _ _ (by assumption) (by assumption)
theorem sm_tdiv {x y : Int} (h : Sm x) : Sm (x.tdiv y) := h.le (Int.natAbs_tdiv_le_natAbs _ _)
theorem remainder_spec {w : World} {p : Program} {loose : List Str} {mean : ExcName → Option Value} {mg mb : Str → Option Value}
    (cn : Str) (cs : Scope) (L a : Addr) (ccd : Value) (cl : List (Str × Addr)) (outer : List Env) (A₀ : Around) (base h₀ : Heap) (m : Str → Option Value)
    (news : List (Addr × Obj)) (x y : Int) (tx ty : Tok) (s : Shared) (Q E : Value → Shared → Prop)
    (B : Below A₀ base outer h₀) (F : Fr h₀ L s.heap m) (X : (hd.heap_39 w.params).In h₀) (T : Top p loose mean mg mb h₀) (hk : cs.kind = .function) (N : News h₀ L s.heap news)
    (hx : Sm x) (hy : Sm y) (hy0 : y ≠ 0)
    (ret : ∀ (t : Tok) (h' : Heap) (tk' : Nat), Fr h₀ L h' m → News h₀ L h' news → Q (.int (x.tmod y) t) { s with heap := h', toks := tk' }) :
    wpAny (model PySem.Challenge.rw_rh0067_01.row.prog w) (ktrTop 480 900 none cn cs L a ccd cl outer) (call (.ref 193) [.int x tx, .int y ty]) Q E s := by
  k_with_none
  k_with "own all" => assumption
  k_with "own binaryOp FloorDiv int int" => (k_dflt (refine floordiv_int ?zzne ?_ (Or.inl (PyProof.noPylong_of_log2 ?zzlg)); (case zzlg => first | exact Sm.log (by assumption) | exact Sm.log (Sm.abs (by assumption))); (case zzne => first | assumption | (split <;> omega))))
  k_with "own binaryOp Mult int int" => (k_dflt (refine mul_int ?_ (Sm.mul ?zzx ?zzy); (case zzx => assumption); (case zzy => assumption)))
  k_with "own call ref" => ((with_reducible show wpAny _ _ (call (Value.ref 186) [Value.int _ _, Value.int _ _]) _ _ _); k_dflt (refine' wpAny_wk ?zzw1 ?zzw2 ?zzw3 ?zzw4 ?zzw5 (divide_spec _ _ _ _ _ _ _ _ _ _ _ _ _ _ _ _ _ _ _ ?zzB ?zzF ?zzX ?zzT ?zzhk ?zzN ?zzhx ?zzhy ?zzhy0 ?_); (case zzB => k_asm); (case zzF => k_asm); (case zzN => k_asm); (case zzw3 => exact rfl); (case zzX => k_asm); (case zzT => k_asm); (case zzhk => first | exact rfl | assumption); (case zzw1 => exact rfl); (case zzw2 => exact Nat.le_of_ble_eq_true rfl); (case zzw4 => exact rfl); (case zzw5 => exact Nat.le_of_ble_eq_true rfl); (case zzhx => assumption); (case zzhy => assumption); (case zzhy0 => assumption)); intro _ _ _ _ _; (try dsimp only); (try k_sweep))
  have hd := sm_tdiv (y := y) hx
  revert X; k_fill; intro X
  refine wpAny_call ?_
  k_dflt cell_enter
  k_steps
  rw [← Int.tmod_def]; exact ret _ _ _ (by assumption) (by assumption)
theorem apply_rem {w : World} {p : Program} {loose : List Str} {mean : ExcName → Option Value} {mg mb : Str → Option Value}
    (cn : Str) (cs : Scope) (L a : Addr) (ccd : Value) (cl : List (Str × Addr)) (outer : List Env) (A₀ : Around) (base h₀ : Heap) (m : Str → Option Value)
    (news : List (Addr × Obj)) (nv : Value) (tt : Tok) (x y : Int) (tx ty : Tok) (s : Shared) (Q E : Value → Shared → Prop)
    (B : Below A₀ base outer h₀) (F : Fr h₀ L s.heap m) (X : (hd.heap_39 w.params).In h₀) (T : Top p loose mean mg mb h₀) (hk : cs.kind = .function) (N : News h₀ L s.heap news)
    (hx : Sm x) (hy : Sm y) (hy0 : y ≠ 0)
    (ret : ∀ (t : Tok) (h' : Heap) (tk' : Nat), Fr h₀ L h' m → News h₀ L h' news → Q (.int (x.tmod y) t) { s with heap := h', toks := tk' }) :
    wpAny (model PySem.Challenge.rw_rh0067_01.row.prog w) (ktrTop 460 800 none cn cs L a ccd cl outer) (call (.ref 200) [nv, .str (Str.ofString "rem") tt, .int x tx, .int y ty]) Q E s := by
  k_with_none
  k_with "own all" => assumption
  k_with "own binaryOp FloorDiv int int" => (k_dflt (refine floordiv_int ?zzne ?_ (Or.inl (PyProof.noPylong_of_log2 ?zzlg)); (case zzlg => first | exact Sm.log (by assumption) | exact Sm.log (Sm.abs (by assumption))); (case zzne => first | assumption | (split <;> omega))))
  k_with "own binaryOp Mult int int" => (k_dflt (refine mul_int ?_ (Sm.mul ?zzx ?zzy); (case zzx => assumption); (case zzy => assumption)))
  k_with "own call ref" => ((with_reducible show wpAny _ _ (call (Value.ref 186) [Value.int _ _, Value.int _ _]) _ _ _); k_dflt (refine' wpAny_wk ?zzw1 ?zzw2 ?zzw3 ?zzw4 ?zzw5 (divide_spec _ _ _ _ _ _ _ _ _ _ _ _ _ _ _ _ _ _ _ ?zzB ?zzF ?zzX ?zzT ?zzhk ?zzN ?zzhx ?zzhy ?zzhy0 ?_); (case zzB => k_asm); (case zzF => k_asm); (case zzN => k_asm); (case zzw3 => exact rfl); (case zzX => k_asm); (case zzT => k_asm); (case zzhk => first | exact rfl | assumption); (case zzw1 => exact rfl); (case zzw2 => exact Nat.le_of_ble_eq_true rfl); (case zzw4 => exact rfl); (case zzw5 => exact Nat.le_of_ble_eq_true rfl); (case zzhx => assumption); (case zzhy => assumption); (case zzhy0 => assumption)); intro _ _ _ _ _; (try dsimp only); (try k_sweep))
  k_with "own call ref" => ((with_reducible show wpAny _ _ (call (Value.ref 193) [Value.int _ _, Value.int _ _]) _ _ _); k_dflt (refine' wpAny_wk ?zzw1 ?zzw2 ?zzw3 ?zzw4 ?zzw5 (remainder_spec _ _ _ _ _ _ _ _ _ _ _ _ _ _ _ _ _ _ _ ?zzB ?zzF ?zzX ?zzT ?zzhk ?zzN ?zzhx ?zzhy ?zzhy0 ?_); (case zzB => k_asm); (case zzF => k_asm); (case zzN => k_asm); (case zzw3 => exact rfl); (case zzX => k_asm); (case zzT => k_asm); (case zzhk => first | exact rfl | assumption); (case zzw1 => exact rfl); (case zzw2 => exact Nat.le_of_ble_eq_true rfl); (case zzw4 => exact rfl); (case zzw5 => exact Nat.le_of_ble_eq_true rfl); (case zzhx => assumption); (case zzhy => assumption); (case zzhy0 => assumption)); intro _ _ _ _ _; (try dsimp only); (try k_sweep))
  k_with "own ite" => (k_dflt (refine ite_neg (fun e => ?zzno) ?_; (case zzno => exact absurd (by simpa using e) (by assumption : ¬ (_ : Int) = 0))))
  revert X; k_fill; intro X
  refine wpAny_call ?_
  k_dflt cell_enter
  k_steps
  exact ret _ _ _ (by assumption) (by assumption)
theorem apply_quo {w : World} {p : Program} {loose : List Str} {mean : ExcName → Option Value} {mg mb : Str → Option Value}
    (cn : Str) (cs : Scope) (L a : Addr) (ccd : Value) (cl : List (Str × Addr)) (outer : List Env) (A₀ : Around) (base h₀ : Heap) (m : Str → Option Value)
    (news : List (Addr × Obj)) (nv : Value) (tt : Tok) (x y : Int) (tx ty : Tok) (s : Shared) (Q E : Value → Shared → Prop)
    (B : Below A₀ base outer h₀) (F : Fr h₀ L s.heap m) (X : (hd.heap_39 w.params).In h₀) (T : Top p loose mean mg mb h₀) (hk : cs.kind = .function) (N : News h₀ L s.heap news)
    (hx : Sm x) (hy : Sm y) (hy0 : y ≠ 0)
    (ret : ∀ (t : Tok) (h' : Heap) (tk' : Nat), Fr h₀ L h' m → News h₀ L h' news → Q (.int (x.tdiv y) t) { s with heap := h', toks := tk' }) :
    wpAny (model PySem.Challenge.rw_rh0067_01.row.prog w) (ktrTop 460 800 none cn cs L a ccd cl outer) (call (.ref 200) [nv, .str (Str.ofString "//") tt, .int x tx, .int y ty]) Q E s := by
  k_with_none
  k_with "own all" => assumption
  k_with "own binaryOp FloorDiv int int" => (k_dflt (refine floordiv_int ?zzne ?_ (Or.inl (PyProof.noPylong_of_log2 ?zzlg)); (case zzlg => first | exact Sm.log (by assumption) | exact Sm.log (Sm.abs (by assumption))); (case zzne => first | assumption | (split <;> omega))))
  k_with "own binaryOp Mult int int" => (k_dflt (refine mul_int ?_ (Sm.mul ?zzx ?zzy); (case zzx => assumption); (case zzy => assumption)))
  k_with "own call ref" => ((with_reducible show wpAny _ _ (call (Value.ref 186) [Value.int _ _, Value.int _ _]) _ _ _); k_dflt (refine' wpAny_wk ?zzw1 ?zzw2 ?zzw3 ?zzw4 ?zzw5 (divide_spec _ _ _ _ _ _ _ _ _ _ _ _ _ _ _ _ _ _ _ ?zzB ?zzF ?zzX ?zzT ?zzhk ?zzN ?zzhx ?zzhy ?zzhy0 ?_); (case zzB => k_asm); (case zzF => k_asm); (case zzN => k_asm); (case zzw3 => exact rfl); (case zzX => k_asm); (case zzT => k_asm); (case zzhk => first | exact rfl | assumption); (case zzw1 => exact rfl); (case zzw2 => exact Nat.le_of_ble_eq_true rfl); (case zzw4 => exact rfl); (case zzw5 => exact Nat.le_of_ble_eq_true rfl); (case zzhx => assumption); (case zzhy => assumption); (case zzhy0 => assumption)); intro _ _ _ _ _; (try dsimp only); (try k_sweep))
  k_with "own call ref" => ((with_reducible show wpAny _ _ (call (Value.ref 193) [Value.int _ _, Value.int _ _]) _ _ _); k_dflt (refine' wpAny_wk ?zzw1 ?zzw2 ?zzw3 ?zzw4 ?zzw5 (remainder_spec _ _ _ _ _ _ _ _ _ _ _ _ _ _ _ _ _ _ _ ?zzB ?zzF ?zzX ?zzT ?zzhk ?zzN ?zzhx ?zzhy ?zzhy0 ?_); (case zzB => k_asm); (case zzF => k_asm); (case zzN => k_asm); (case zzw3 => exact rfl); (case zzX => k_asm); (case zzT => k_asm); (case zzhk => first | exact rfl | assumption); (case zzw1 => exact rfl); (case zzw2 => exact Nat.le_of_ble_eq_true rfl); (case zzw4 => exact rfl); (case zzw5 => exact Nat.le_of_ble_eq_true rfl); (case zzhx => assumption); (case zzhy => assumption); (case zzhy0 => assumption)); intro _ _ _ _ _; (try dsimp only); (try k_sweep))
  k_with "own ite" => (k_dflt (refine ite_neg (fun e => ?zzno) ?_; (case zzno => exact absurd (by simpa using e) (by assumption : ¬ (_ : Int) = 0))))
  revert X; k_fill; intro X
  refine wpAny_call ?_
  k_dflt cell_enter
  k_steps
  exact ret _ _ _ (by assumption) (by assumption)
theorem apply_mod {w : World} {p : Program} {loose : List Str} {mean : ExcName → Option Value} {mg mb : Str → Option Value}
    (cn : Str) (cs : Scope) (L a : Addr) (ccd : Value) (cl : List (Str × Addr)) (outer : List Env) (A₀ : Around) (base h₀ : Heap) (m : Str → Option Value)
    (news : List (Addr × Obj)) (nv : Value) (tt : Tok) (x y : Int) (tx ty : Tok) (s : Shared) (Q E : Value → Shared → Prop)
    (B : Below A₀ base outer h₀) (F : Fr h₀ L s.heap m) (X : (hd.heap_39 w.params).In h₀) (T : Top p loose mean mg mb h₀) (hk : cs.kind = .function) (N : News h₀ L s.heap news)
    (hx : Sm x) (hy : Sm y) (hy0 : y ≠ 0)
    (ret : ∀ (t : Tok) (h' : Heap) (tk' : Nat), Fr h₀ L h' m → News h₀ L h' news → Q (.int (x.fmod y) t) { s with heap := h', toks := tk' }) :
    wpAny (model PySem.Challenge.rw_rh0067_01.row.prog w) (ktrTop 460 800 none cn cs L a ccd cl outer) (call (.ref 200) [nv, .str (Str.ofString "mod") tt, .int x tx, .int y ty]) Q E s := by
  k_with_none
  k_with "own all" => assumption
  k_with "own binaryOp FloorDiv int int" => (k_dflt (refine floordiv_int ?zzne ?_ (Or.inl (PyProof.noPylong_of_log2 ?zzlg)); (case zzlg => first | exact Sm.log (by assumption) | exact Sm.log (Sm.abs (by assumption))); (case zzne => first | assumption | (split <;> omega))))
  k_with "own binaryOp Mult int int" => (k_dflt (refine mul_int ?_ (Sm.mul ?zzx ?zzy); (case zzx => assumption); (case zzy => assumption)))
  k_with "own call ref" => ((with_reducible show wpAny _ _ (call (Value.ref 186) [Value.int _ _, Value.int _ _]) _ _ _); k_dflt (refine' wpAny_wk ?zzw1 ?zzw2 ?zzw3 ?zzw4 ?zzw5 (divide_spec _ _ _ _ _ _ _ _ _ _ _ _ _ _ _ _ _ _ _ ?zzB ?zzF ?zzX ?zzT ?zzhk ?zzN ?zzhx ?zzhy ?zzhy0 ?_); (case zzB => k_asm); (case zzF => k_asm); (case zzN => k_asm); (case zzw3 => exact rfl); (case zzX => k_asm); (case zzT => k_asm); (case zzhk => first | exact rfl | assumption); (case zzw1 => exact rfl); (case zzw2 => exact Nat.le_of_ble_eq_true rfl); (case zzw4 => exact rfl); (case zzw5 => exact Nat.le_of_ble_eq_true rfl); (case zzhx => assumption); (case zzhy => assumption); (case zzhy0 => assumption)); intro _ _ _ _ _; (try dsimp only); (try k_sweep))
  k_with "own call ref" => ((with_reducible show wpAny _ _ (call (Value.ref 193) [Value.int _ _, Value.int _ _]) _ _ _); k_dflt (refine' wpAny_wk ?zzw1 ?zzw2 ?zzw3 ?zzw4 ?zzw5 (remainder_spec _ _ _ _ _ _ _ _ _ _ _ _ _ _ _ _ _ _ _ ?zzB ?zzF ?zzX ?zzT ?zzhk ?zzN ?zzhx ?zzhy ?zzhy0 ?_); (case zzB => k_asm); (case zzF => k_asm); (case zzN => k_asm); (case zzw3 => exact rfl); (case zzX => k_asm); (case zzT => k_asm); (case zzhk => first | exact rfl | assumption); (case zzw1 => exact rfl); (case zzw2 => exact Nat.le_of_ble_eq_true rfl); (case zzw4 => exact rfl); (case zzw5 => exact Nat.le_of_ble_eq_true rfl); (case zzhx => assumption); (case zzhy => assumption); (case zzhy0 => assumption)); intro _ _ _ _ _; (try dsimp only); (try k_sweep))
  k_with "own ite" => (k_dflt (refine ite_neg (fun e => ?zzno) ?_; (case zzno => exact absurd (by simpa using e) (by assumption : ¬ (_ : Int) = 0))))
  revert X; k_fill; intro X
  refine wpAny_call ?_
  k_dflt cell_enter
  k_steps
  exact ret _ _ _ (by assumption) (by assumption)
theorem apply_div {w : World} {p : Program} {loose : List Str} {mean : ExcName → Option Value} {mg mb : Str → Option Value}
    (cn : Str) (cs : Scope) (L a : Addr) (ccd : Value) (cl : List (Str × Addr)) (outer : List Env) (A₀ : Around) (base h₀ : Heap) (m : Str → Option Value)
    (news : List (Addr × Obj)) (nv : Value) (tt : Tok) (x y : Int) (tx ty : Tok) (s : Shared) (Q E : Value → Shared → Prop)
    (B : Below A₀ base outer h₀) (F : Fr h₀ L s.heap m) (X : (hd.heap_39 w.params).In h₀) (T : Top p loose mean mg mb h₀) (hk : cs.kind = .function) (N : News h₀ L s.heap news)
    (hx : Sm x) (hy : Sm y) (hy0 : y ≠ 0)
    (ret : ∀ (t : Tok) (h' : Heap) (tk' : Nat), Fr h₀ L h' m → News h₀ L h' news → Q (.int (x.fdiv y) t) { s with heap := h', toks := tk' }) :
    wpAny (model PySem.Challenge.rw_rh0067_01.row.prog w) (ktrTop 460 800 none cn cs L a ccd cl outer) (call (.ref 200) [nv, .str (Str.ofString "div") tt, .int x tx, .int y ty]) Q E s := by
  k_with_none
  k_with "own all" => assumption
  k_with "own binaryOp FloorDiv int int" => (k_dflt (refine floordiv_int ?zzne ?_ (Or.inl (PyProof.noPylong_of_log2 ?zzlg)); (case zzlg => first | exact Sm.log (by assumption) | exact Sm.log (Sm.abs (by assumption))); (case zzne => first | assumption | (split <;> omega))))
  k_with "own binaryOp Mult int int" => (k_dflt (refine mul_int ?_ (Sm.mul ?zzx ?zzy); (case zzx => assumption); (case zzy => assumption)))
  k_with "own call ref" => ((with_reducible show wpAny _ _ (call (Value.ref 186) [Value.int _ _, Value.int _ _]) _ _ _); k_dflt (refine' wpAny_wk ?zzw1 ?zzw2 ?zzw3 ?zzw4 ?zzw5 (divide_spec _ _ _ _ _ _ _ _ _ _ _ _ _ _ _ _ _ _ _ ?zzB ?zzF ?zzX ?zzT ?zzhk ?zzN ?zzhx ?zzhy ?zzhy0 ?_); (case zzB => k_asm); (case zzF => k_asm); (case zzN => k_asm); (case zzw3 => exact rfl); (case zzX => k_asm); (case zzT => k_asm); (case zzhk => first | exact rfl | assumption); (case zzw1 => exact rfl); (case zzw2 => exact Nat.le_of_ble_eq_true rfl); (case zzw4 => exact rfl); (case zzw5 => exact Nat.le_of_ble_eq_true rfl); (case zzhx => assumption); (case zzhy => assumption); (case zzhy0 => assumption)); intro _ _ _ _ _; (try dsimp only); (try k_sweep))
  k_with "own call ref" => ((with_reducible show wpAny _ _ (call (Value.ref 193) [Value.int _ _, Value.int _ _]) _ _ _); k_dflt (refine' wpAny_wk ?zzw1 ?zzw2 ?zzw3 ?zzw4 ?zzw5 (remainder_spec _ _ _ _ _ _ _ _ _ _ _ _ _ _ _ _ _ _ _ ?zzB ?zzF ?zzX ?zzT ?zzhk ?zzN ?zzhx ?zzhy ?zzhy0 ?_); (case zzB => k_asm); (case zzF => k_asm); (case zzN => k_asm); (case zzw3 => exact rfl); (case zzX => k_asm); (case zzT => k_asm); (case zzhk => first | exact rfl | assumption); (case zzw1 => exact rfl); (case zzw2 => exact Nat.le_of_ble_eq_true rfl); (case zzw4 => exact rfl); (case zzw5 => exact Nat.le_of_ble_eq_true rfl); (case zzhx => assumption); (case zzhy => assumption); (case zzhy0 => assumption)); intro _ _ _ _ _; (try dsimp only); (try k_sweep))
  k_with "own ite" => (k_dflt (refine ite_neg (fun e => ?zzno) ?_; (case zzno => exact absurd (by simpa using e) (by assumption : ¬ (_ : Int) = 0))))
  revert X; k_fill; intro X
  refine wpAny_call ?_
  k_dflt cell_enter
  k_steps
  exact ret _ _ _ (by assumption) (by assumption)
end Mine
end
theorem Mine.calm_M2 : True ∧ True := by
  w_top off
  k_with_none
  (try walk1)
  all_goals trivial
section
open PySem PySem.W PySem.Calls PySem.Spec PyProof.Rows
namespace Mine
theorem natAbs_fdiv_pos {x b : Int} (hb : 0 < b) : (x.fdiv b).natAbs ≤ x.natAbs := by
  rw [Int.fdiv_eq_ediv_of_nonneg _ (Int.le_of_lt hb)]
  rcases Int.le_total 0 x with h | h
  · have h1 := Int.ediv_nonneg h (Int.le_of_lt hb)
    have h2 := Int.ediv_le_self b h
    omega
  · have h1 : x / b ≤ 0 := Int.ediv_nonpos_of_nonpos_of_neg h hb
    have h2 : x ≤ x / b := by
      rw [Int.le_ediv_iff_mul_le hb]
      have h3 : (-x) * 1 ≤ (-x) * b := Int.mul_le_mul_of_nonneg_left (by omega) (by omega)
      rw [Int.neg_mul, Int.neg_mul] at h3
      omega
    omega
theorem sm_fdiv {x b : Int} (h : Sm x) (hb : b ≠ 0) : Sm (x.fdiv b) := by
  refine h.le ?_
  rcases Int.lt_or_gt_of_ne hb with h0 | h0
  · have := natAbs_fdiv_pos (x := -x) (b := -b) (by omega)
    rw [Int.neg_fdiv_neg, Int.natAbs_neg] at this
    exact this
  · exact natAbs_fdiv_pos h0
end Mine
end
theorem Mine.calm_B4 : True ∧ True := by
  w_top off
  k_with_none
  (try walk1)
  all_goals trivial
section
open PySem PySem.W PySem.Calls PySem.Spec PyProof.Rows
namespace Mine
def rst (q : Int → Int → Int) (x : Int) (l : List Int) : Int := l.foldl q x
def digs (r q : Int → Int → Int) (x : Int) : List Int → List Int
  | [] => []
  | b :: l => r x b :: digs r q (q x b) l
theorem rst_snoc (q : Int → Int → Int) (x b : Int) (l : List Int) : rst q x (l ++ [b]) = q (rst q x l) b := by unfold rst; rw [List.foldl_append]; rfl
theorem digs_snoc (r q : Int → Int → Int) (b : Int) : ∀ (x : Int) (l : List Int), digs r q x (l ++ [b]) = digs r q x l ++ [r (rst q x l) b]
  | x, [] => rfl
  | x, c :: l => by show r x c :: digs r q (q x c) (l ++ [b]) = _; rw [digs_snoc r q b (q x c) l]; rfl
theorem digs_length (r q : Int → Int → Int) : ∀ (x : Int) (l : List Int), (digs r q x l).length = l.length
  | _, [] => rfl
  | x, c :: l => by show (digs r q (q x c) l).length + 1 = l.length + 1; rw [digs_length r q (q x c) l]
theorem fr_eq {h₀ h : Heap} {L : Addr} {m m' : Str → Option Value} (F : Fr h₀ L h m) (e : ∀ y, m y = m' y) : Fr h₀ L h m' := (funext e : m = m') ▸ F
theorem one_has (a y : Str) : ([a].contains y = true) ↔ y = a := by simp
theorem allLt_ne {d : Addr} : ∀ {l : List (Addr × Obj)}, AllLt d l → ∀ p ∈ l, p.1 ≠ d
  | [], _, _, h => nomatch h
  | _ :: _, h, p, hp => by
    rcases List.mem_cons.mp hp with rfl | hp
    · exact Nat.ne_of_lt h.1
    · exact allLt_ne h.2 p hp
theorem lt_ne {d : Addr} {l : List (Addr × Obj)} (h : ∀ p ∈ l, p.1 < d) : ∀ p ∈ l, p.1 ≠ d := fun p hp => Nat.ne_of_lt (h p hp)
theorem allLt_mem {d : Addr} : ∀ {l : List (Addr × Obj)}, AllLt d l → ∀ p ∈ l, p.1 < d
  | [], _, _, h => nomatch h
  | _ :: _, h, p, hp => by
    rcases List.mem_cons.mp hp with rfl | hp
    · exact h.1
    · exact allLt_mem h.2 p hp
def TkPost (r q : Int → Int → Int) (h₀ : Heap) (L dl : Addr) (m₀ : Str → Option Value) (led : List (Addr × Obj)) (x0 : Int) (pre : List Int) (s₁ : Shared) (Q : Flow → Shared → Prop) (f : Flow) (s₂ : Shared) : Prop :=
  match f with
  | .ret v => Q (.ret v) s₂
  | .brk => Q .next s₂
  | _ => ∃ h' tk' m' dvs nd t, s₂ = { s₁ with heap := h', toks := tk' } ∧ Fr h₀ L h' m' ∧ News h₀ L h' ((dl, listOf dvs.toArray nd) :: led) ∧ IntsAre dvs (digs r q x0 pre) ∧ m' (Str.ofString "number") = some (.int (rst q x0 pre) t) ∧ Sm (rst q x0 pre) ∧
      (∀ z, z ≠ Str.ofString "divisor" → z ≠ Str.ofString "digit" → z ≠ Str.ofString "number" → m' z = m₀ z)
theorem tk_end {r q : Int → Int → Int} {h₀ : Heap} {L dl : Addr} {m₀ m' : Str → Option Value} {led : List (Addr × Obj)} {x0 b : Int} {pre : List Int} {s₁ : Shared} {Q : Flow → Shared → Prop} {h' : Heap} {tk' : Nat} {dvs : List Value} {n' : Nat} {t t2 : Tok}
    (F : Fr h₀ L h' m') (N : News h₀ L h' ((dl, listOf (dvs.toArray.push (.int (r (rst q x0 pre) b) t)) n') :: led)) (hI : IntsAre dvs (digs r q x0 pre)) (hm : m' (Str.ofString "number") = some (.int (q (rst q x0 pre) b) t2)) (hs : Sm (q (rst q x0 pre) b))
    (ho : ∀ z, z ≠ Str.ofString "divisor" → z ≠ Str.ofString "digit" → z ≠ Str.ofString "number" → m' z = m₀ z) : TkPost r q h₀ L dl m₀ led x0 (pre ++ [b]) s₁ Q .next { s₁ with heap := h', toks := tk' } := by
  refine ⟨h', tk', m', dvs ++ [.int (r (rst q x0 pre) b) t], n', t2, rfl, F, ?_, ?_, ?_, ?_, ho⟩
  · rw [List.push_toArray] at N
    exact N
  · rw [digs_snoc]
    exact IntsAre.append hI (.cons _ _ .nil)
  · rw [rst_snoc]; exact hm
  · rw [rst_snoc]; exact hs
structure TkS where
  dvs : List Value
  nd : Nat
  tk : Tok
  num : Int
section
variable {prog : Program} {w : World} {A : Around} {E : Value → Shared → Prop} {s : Shared} {env : Env} {h₀ : Heap} {body : List Stmt} {Q : Flow → Shared → Prop}
theorem tk_list (r q : Int → Int → Int) {l dl : Addr} {vs : List Value} {ns : List Int} {nn : Nat} {m₀ : Str → Option Value} {news : List (Addr × Obj)} {x0 : Int} {t0 : Tok}
    (hh : A.handled = none) (hl : (l, listOf vs.toArray nn) ∈ news) (hi : IntsAre vs ns) (F : Fr h₀ env.locals s.heap m₀) (N : News h₀ env.locals s.heap ((dl, listOf #[] 0) :: news)) (hoff : ∀ p ∈ news, p.1 ≠ dl)
    (hnum : m₀ (Str.ofString "number") = some (.int x0 t0)) (hsm : Sm x0) (hlen : ns.length ≤ 64) (hb : ∀ b ∈ ns, b ≠ 0 ∧ Sm b)
    (turn : ∀ (pre : List Int) (dvs : List Value) (nd : Nat) (b : Int) (tb tk : Tok) (u : Str → Option Value) (h : Heap) (tk' : Nat) (led : List (Addr × Obj)), b ≠ 0 → Sm b → (∀ p ∈ led, p.1 ≠ dl) → IntsAre dvs (digs r q x0 pre) → dvs.length ≤ 64 → Sm (rst q x0 pre) →
      Fr h₀ env.locals h (fun y => if y = Str.ofString "divisor" then some (.int b tb) else if y = Str.ofString "number" then some (.int (rst q x0 pre) tk) else if y = Str.ofString "digit" then u y else m₀ y) → News h₀ env.locals h ((dl, listOf dvs.toArray nd) :: led) →
      wpAny (model prog w) A (execs body env) (TkPost r q h₀ env.locals dl m₀ led x0 (pre ++ [b]) { s with heap := h, toks := tk' } Q) E { s with heap := h, toks := tk' })
    (done : ∀ (dvs : List Value) (nd : Nat) (tk : Tok) (u : Str → Option Value) (h : Heap) (tk' : Nat), IntsAre dvs (digs r q x0 ns) → Sm (rst q x0 ns) →
      Fr h₀ env.locals h (fun y => if y = Str.ofString "divisor" then u y else if y = Str.ofString "number" then some (.int (rst q x0 ns) tk) else if y = Str.ofString "digit" then u y else m₀ y) → News h₀ env.locals h ((dl, listOf dvs.toArray nd) :: news) → Q .next { s with heap := h, toks := tk' }) :
    wpAny (model prog w) A (pyIter (.ref l)) (fun it s₂ => LoopAtV prog w A h₀ env (Str.ofString "divisor") body Q E it s₂) E s := by
  refine kst_listL (σ := TkS) (nn := nn) (fun (c : TkS) => (dl, listOf c.dvs.toArray c.nd) :: news) (fun (c : TkS) => [(Str.ofString "number", .int c.num c.tk)]) (fun _ => True) [Str.ofString "digit"]
    (fun (pre : List Int) (c : TkS) => IntsAre c.dvs (digs r q x0 pre) ∧ c.num = rst q x0 pre ∧ Sm c.num ∧ pre.length ≤ ns.length) ⟨[], 0, t0, x0⟩ hh (fun c => .tail _ hl) hi F N trivial ?_ ⟨.nil, rfl, hsm, Nat.zero_le _⟩ ?_ ?_
  · intro p hp
    rcases List.mem_cons.mp hp with rfl | hp
    · exact hnum
    · cases hp
  · rintro ⟨dvs, nd, tk, num⟩ pre post b tb u h tk' own e hbm hown _ ⟨hI, rfl, hs, hle⟩ F₁ N₁
    have hno : ∀ p ∈ news ++ own, p.1 ≠ dl := fun p hp => (List.mem_append.mp hp).elim (hoff p) fun hp => hown p hp dl (.head _)
    have hz : dvs.length ≤ 64 := by
      have h1 := hI.length
      have h2 : pre.length ≤ ns.length := hle
      rw [digs_length] at h1
      dsimp only at h1
      omega
    have F₂ : Fr h₀ env.locals h (fun y => if y = Str.ofString "divisor" then some (.int b tb) else if y = Str.ofString "number" then some (.int (rst q x0 pre) tk) else if y = Str.ofString "digit" then u y else m₀ y) := by
      refine fr_eq F₁ fun y => ?_
      simp only [kstB, one_has]
    refine wpAny_mono (turn pre dvs nd b tb tk u h tk' (news ++ own) (hb b hbm).1 (hb b hbm).2 hno hI hz hs F₂ N₁) (fun f s₂ p => ?_) fun _ _ x => x
    have up : (∃ h' tk' m' dvs nd t, s₂ = { s with heap := h', toks := tk' } ∧ Fr h₀ env.locals h' m' ∧ News h₀ env.locals h' ((dl, listOf dvs.toArray nd) :: (news ++ own)) ∧ IntsAre dvs (digs r q x0 (pre ++ [b])) ∧ m' (Str.ofString "number") = some (.int (rst q x0 (pre ++ [b])) t) ∧ Sm (rst q x0 (pre ++ [b])) ∧
      (∀ z, z ≠ Str.ofString "divisor" → z ≠ Str.ofString "digit" → z ≠ Str.ofString "number" → m' z = m₀ z)) → InvEndN h₀ env.locals (KstS (fun (c : TkS) => (dl, listOf c.dvs.toArray c.nd) :: news) (fun (c : TkS) => [(Str.ofString "number", .int c.num c.tk)]) (fun _ => True) (Str.ofString "divisor") [Str.ofString "digit"] m₀
    (fun (pre : List Int) (c : TkS) => IntsAre c.dvs (digs r q x0 pre) ∧ c.num = rst q x0 pre ∧ Sm c.num ∧ pre.length ≤ ns.length) (pre ++ [b])) own (((fun (c : TkS) => (dl, listOf c.dvs.toArray c.nd) :: news) ⟨[], 0, t0, x0⟩).map (·.1)) { s with heap := h, toks := tk' } s₂ := by
      rintro ⟨h', tk'', m', dvs', nd', t', rfl, F', N', hI', hm', hs', ho'⟩
      refine kst_end (σ := TkS) ⟨dvs', nd', t', _⟩ F' N' (fun p hp => ?_) (fun p hp => ?_) rfl trivial ?_ ?_ ⟨hI', rfl, hs', ?_⟩
      · rcases List.mem_cons.mp hp with rfl | hp
        · exact .head _
        · exact .tail _ (List.mem_append_left _ hp)
      · exact .tail _ (List.mem_append_right _ hp)
      · intro p hp
        rcases List.mem_cons.mp hp with rfl | hp
        · exact hm'
        · cases hp
      · intro z h1 h2 h3
        exact ho' z h1 (fun e => by subst e; exact absurd h3 (by decide)) (h2 _ (.head _))
      · rw [e]; simp
    cases f with
    | ret v => exact p
    | brk => exact p
    | next => exact up p
    | cont => exact up p
  · rintro ⟨dvs, nd, tk, num⟩ u h tk' _ ⟨hI, rfl, hs, _⟩ F₁ N₁
    refine done dvs nd tk u h tk' hI hs ?_ N₁
    refine fr_eq F₁ fun y => ?_
    simp only [kstB, one_has]
end
end Mine
end
theorem Mine.calm_B5 : True ∧ True := by
  w_top off
  k_with_none
  (try walk1)
  all_goals trivial
section
open PySem PySem.W PySem.Calls PySem.Spec PyProof.Rows
namespace Mine
theorem taken_T {w : World} {p : Program} {loose : List Str} {mean : ExcName → Option Value} {mg mb : Str → Option Value}
    (cn : Str) (cs : Scope) (L a : Addr) (ccd : Value) (cl : List (Str × Addr)) (outer : List Env) (A₀ : Around) (base h₀ : Heap) (m : Str → Option Value)
    (news : List (Addr × Obj)) (nv : Value) (bl : Addr) (bvs : List Value) (nb : Nat) (bs : List Int) (x : Int) (tx tl th : Tok) (s : Shared) (Q E : Value → Shared → Prop)
    (B : Below A₀ base outer h₀) (F : Fr h₀ L s.heap m) (X : (hd.heap_39 w.params).In h₀) (T : Top p loose mean mg mb h₀) (hk : cs.kind = .function) (N : News h₀ L s.heap news)
    (hbl : (bl, listOf bvs.toArray nb) ∈ news) (hI : IntsAre bvs bs) (hlen : bs.length ≤ 64) (hx : Sm x) (hb : ∀ b ∈ bs, b ≠ 0 ∧ Sm b)
    (ret : ∀ (dl tl : Addr) (dvs : List Value) (nd : Nat) (t : Tok) (h' : Heap) (tk' : Nat), IntsAre dvs (digs (Int.tmod) (Int.tdiv) x bs) → Sm (rst (Int.tdiv) x bs) → (∀ p ∈ news, p.1 < dl) → dl < tl → Fr h₀ L h' m →
      News h₀ L h' ((tl, { cls := .type "tuple", data := .seq #[.ref dl, .int (rst (Int.tdiv) x bs) t] }) :: (dl, listOf dvs.toArray nd) :: news) → Q (.ref tl) { s with heap := h', toks := tk' }) :
    wpAny (model PySem.Challenge.rw_rh0067_01.row.prog w) (ktrTop 440 700 none cn cs L a ccd cl outer) (call (.ref 228) [nv, .int x tx, .ref bl, .str (Str.ofString "rem") tl, .str (Str.ofString "//") th]) Q E s := by
  k_with_none
  k_with "own all" => assumption
  k_with "own call ref" => ((with_reducible show wpAny _ _ (call (Value.ref 200) [_, Value.str _ _, Value.int _ _, Value.int _ _]) _ _ _); k_dflt (refine' wpAny_wk ?zzw1 ?zzw2 ?zzw3 ?zzw4 ?zzw5 (apply_rem _ _ _ _ _ _ _ _ _ _ _ _ _ _ _ _ _ _ _ _ _ ?zzB ?zzF ?zzX ?zzT ?zzhk ?zzN ?zzhx ?zzhy ?zzhy0 ?_); (case zzB => k_asm); (case zzF => k_asm); (case zzN => k_asm); (case zzw3 => exact rfl); (case zzX => k_asm); (case zzT => k_asm); (case zzhk => first | exact rfl | assumption); (case zzw1 => exact rfl); (case zzw2 => exact Nat.le_of_ble_eq_true rfl); (case zzw4 => exact rfl); (case zzw5 => exact Nat.le_of_ble_eq_true rfl); (case zzhx => assumption); (case zzhy => assumption); (case zzhy0 => assumption)); intro _ _ _ _ _; (try dsimp only); (try k_sweep))
  k_with "own call ref" => ((with_reducible show wpAny _ _ (call (Value.ref 200) [_, Value.str _ _, Value.int _ _, Value.int _ _]) _ _ _); k_dflt (refine' wpAny_wk ?zzw1 ?zzw2 ?zzw3 ?zzw4 ?zzw5 (apply_quo _ _ _ _ _ _ _ _ _ _ _ _ _ _ _ _ _ _ _ _ _ ?zzB ?zzF ?zzX ?zzT ?zzhk ?zzN ?zzhx ?zzhy ?zzhy0 ?_); (case zzB => k_asm); (case zzF => k_asm); (case zzN => k_asm); (case zzw3 => exact rfl); (case zzX => k_asm); (case zzT => k_asm); (case zzhk => first | exact rfl | assumption); (case zzw1 => exact rfl); (case zzw2 => exact Nat.le_of_ble_eq_true rfl); (case zzw4 => exact rfl); (case zzw5 => exact Nat.le_of_ble_eq_true rfl); (case zzhx => assumption); (case zzhy => assumption); (case zzhy0 => assumption)); intro _ _ _ _ _; (try dsimp only); (try k_sweep))
  k_with "own call ref" => ((with_reducible show wpAny _ _ (call (Value.ref 200) [_, Value.str _ _, Value.int _ _, Value.int _ _]) _ _ _); k_dflt (refine' wpAny_wk ?zzw1 ?zzw2 ?zzw3 ?zzw4 ?zzw5 (apply_mod _ _ _ _ _ _ _ _ _ _ _ _ _ _ _ _ _ _ _ _ _ ?zzB ?zzF ?zzX ?zzT ?zzhk ?zzN ?zzhx ?zzhy ?zzhy0 ?_); (case zzB => k_asm); (case zzF => k_asm); (case zzN => k_asm); (case zzw3 => exact rfl); (case zzX => k_asm); (case zzT => k_asm); (case zzhk => first | exact rfl | assumption); (case zzw1 => exact rfl); (case zzw2 => exact Nat.le_of_ble_eq_true rfl); (case zzw4 => exact rfl); (case zzw5 => exact Nat.le_of_ble_eq_true rfl); (case zzhx => assumption); (case zzhy => assumption); (case zzhy0 => assumption)); intro _ _ _ _ _; (try dsimp only); (try k_sweep))
  k_with "own call ref" => ((with_reducible show wpAny _ _ (call (Value.ref 200) [_, Value.str _ _, Value.int _ _, Value.int _ _]) _ _ _); k_dflt (refine' wpAny_wk ?zzw1 ?zzw2 ?zzw3 ?zzw4 ?zzw5 (apply_div _ _ _ _ _ _ _ _ _ _ _ _ _ _ _ _ _ _ _ _ _ ?zzB ?zzF ?zzX ?zzT ?zzhk ?zzN ?zzhx ?zzhy ?zzhy0 ?_); (case zzB => k_asm); (case zzF => k_asm); (case zzN => k_asm); (case zzw3 => exact rfl); (case zzX => k_asm); (case zzT => k_asm); (case zzhk => first | exact rfl | assumption); (case zzw1 => exact rfl); (case zzw2 => exact Nat.le_of_ble_eq_true rfl); (case zzw4 => exact rfl); (case zzw5 => exact Nat.le_of_ble_eq_true rfl); (case zzhx => assumption); (case zzhy => assumption); (case zzhy0 => assumption)); intro _ _ _ _ _; (try dsimp only); (try k_sweep))
  k_with "own call builtin:list.append" => ((with_reducible show wpAny _ _ (call (Value.builtin _) [Value.ref _, _]) _ _ _); k_dflt (refine' append_K ?zzk1 ?zzk2 ?zzk3 ?_ ?zzz; (case zzk1 => k_asm); (case zzk2 => k_asm); (case zzk3 => k_upd); (case zzz => (rw [List.size_toArray, sizeLine_eq]; omega)); k_whole); intro _ _ _; (try k_sweep))
  k_with "own pyIter ref" => ((with_reducible show wpAny _ _ (pyIter (Value.ref _)) (fun it s₂ => LoopAtV _ _ _ _ _ _ _ _ _ it s₂) _ _); k_dflt (refine' tk_list Int.tmod Int.tdiv ?zzhh ?zzhl ?zzhi ?zzF ?zzN ?zzhoff ?zzhnum ?zzhsm ?zzhlen ?zzhb ?_ ?_; (case zzF => k_asm); (case zzN => k_asm); (case zzhh => exact rfl); (case zzhl => assumption); (case zzhi => assumption); (case zzhnum => exact rfl); (case zzhsm => assumption); (case zzhlen => assumption); (case zzhoff => first | exact lt_ne (by assumption) | exact allLt_ne (by assumption)); (case zzhb => assumption)))
  revert X; k_fill; intro X
  refine wpAny_call ?_
  k_dflt cell_enter
  k_steps
  · refine tk_end (by assumption) (by assumption) (by assumption) (by exact rfl) (sm_tdiv (by assumption)) ?_
    intro z h1 h2 h3
    simp only [h1, h2, h3, if_false]
  · refine ret _ _ _ _ _ _ _ (by assumption) (by assumption) (by assumption) (And.left (by assumption)) (by assumption) (by assumption)
theorem taken_F {w : World} {p : Program} {loose : List Str} {mean : ExcName → Option Value} {mg mb : Str → Option Value}
    (cn : Str) (cs : Scope) (L a : Addr) (ccd : Value) (cl : List (Str × Addr)) (outer : List Env) (A₀ : Around) (base h₀ : Heap) (m : Str → Option Value)
    (news : List (Addr × Obj)) (nv : Value) (bl : Addr) (bvs : List Value) (nb : Nat) (bs : List Int) (x : Int) (tx tl th : Tok) (s : Shared) (Q E : Value → Shared → Prop)
    (B : Below A₀ base outer h₀) (F : Fr h₀ L s.heap m) (X : (hd.heap_39 w.params).In h₀) (T : Top p loose mean mg mb h₀) (hk : cs.kind = .function) (N : News h₀ L s.heap news)
    (hbl : (bl, listOf bvs.toArray nb) ∈ news) (hI : IntsAre bvs bs) (hlen : bs.length ≤ 64) (hx : Sm x) (hb : ∀ b ∈ bs, b ≠ 0 ∧ Sm b)
    (ret : ∀ (dl tl : Addr) (dvs : List Value) (nd : Nat) (t : Tok) (h' : Heap) (tk' : Nat), IntsAre dvs (digs (Int.fmod) (Int.fdiv) x bs) → Sm (rst (Int.fdiv) x bs) → (∀ p ∈ news, p.1 < dl) → dl < tl → Fr h₀ L h' m →
      News h₀ L h' ((tl, { cls := .type "tuple", data := .seq #[.ref dl, .int (rst (Int.fdiv) x bs) t] }) :: (dl, listOf dvs.toArray nd) :: news) → Q (.ref tl) { s with heap := h', toks := tk' }) :
    wpAny (model PySem.Challenge.rw_rh0067_01.row.prog w) (ktrTop 440 700 none cn cs L a ccd cl outer) (call (.ref 228) [nv, .int x tx, .ref bl, .str (Str.ofString "mod") tl, .str (Str.ofString "div") th]) Q E s := by
  k_with_none
  k_with "own all" => assumption
  k_with "own call ref" => ((with_reducible show wpAny _ _ (call (Value.ref 200) [_, Value.str _ _, Value.int _ _, Value.int _ _]) _ _ _); k_dflt (refine' wpAny_wk ?zzw1 ?zzw2 ?zzw3 ?zzw4 ?zzw5 (apply_rem _ _ _ _ _ _ _ _ _ _ _ _ _ _ _ _ _ _ _ _ _ ?zzB ?zzF ?zzX ?zzT ?zzhk ?zzN ?zzhx ?zzhy ?zzhy0 ?_); (case zzB => k_asm); (case zzF => k_asm); (case zzN => k_asm); (case zzw3 => exact rfl); (case zzX => k_asm); (case zzT => k_asm); (case zzhk => first | exact rfl | assumption); (case zzw1 => exact rfl); (case zzw2 => exact Nat.le_of_ble_eq_true rfl); (case zzw4 => exact rfl); (case zzw5 => exact Nat.le_of_ble_eq_true rfl); (case zzhx => assumption); (case zzhy => assumption); (case zzhy0 => assumption)); intro _ _ _ _ _; (try dsimp only); (try k_sweep))
  k_with "own call ref" => ((with_reducible show wpAny _ _ (call (Value.ref 200) [_, Value.str _ _, Value.int _ _, Value.int _ _]) _ _ _); k_dflt (refine' wpAny_wk ?zzw1 ?zzw2 ?zzw3 ?zzw4 ?zzw5 (apply_quo _ _ _ _ _ _ _ _ _ _ _ _ _ _ _ _ _ _ _ _ _ ?zzB ?zzF ?zzX ?zzT ?zzhk ?zzN ?zzhx ?zzhy ?zzhy0 ?_); (case zzB => k_asm); (case zzF => k_asm); (case zzN => k_asm); (case zzw3 => exact rfl); (case zzX => k_asm); (case zzT => k_asm); (case zzhk => first | exact rfl | assumption); (case zzw1 => exact rfl); (case zzw2 => exact Nat.le_of_ble_eq_true rfl); (case zzw4 => exact rfl); (case zzw5 => exact Nat.le_of_ble_eq_true rfl); (case zzhx => assumption); (case zzhy => assumption); (case zzhy0 => assumption)); intro _ _ _ _ _; (try dsimp only); (try k_sweep))
  k_with "own call ref" => ((with_reducible show wpAny _ _ (call (Value.ref 200) [_, Value.str _ _, Value.int _ _, Value.int _ _]) _ _ _); k_dflt (refine' wpAny_wk ?zzw1 ?zzw2 ?zzw3 ?zzw4 ?zzw5 (apply_mod _ _ _ _ _ _ _ _ _ _ _ _ _ _ _ _ _ _ _ _ _ ?zzB ?zzF ?zzX ?zzT ?zzhk ?zzN ?zzhx ?zzhy ?zzhy0 ?_); (case zzB => k_asm); (case zzF => k_asm); (case zzN => k_asm); (case zzw3 => exact rfl); (case zzX => k_asm); (case zzT => k_asm); (case zzhk => first | exact rfl | assumption); (case zzw1 => exact rfl); (case zzw2 => exact Nat.le_of_ble_eq_true rfl); (case zzw4 => exact rfl); (case zzw5 => exact Nat.le_of_ble_eq_true rfl); (case zzhx => assumption); (case zzhy => assumption); (case zzhy0 => assumption)); intro _ _ _ _ _; (try dsimp only); (try k_sweep))
  k_with "own call ref" => ((with_reducible show wpAny _ _ (call (Value.ref 200) [_, Value.str _ _, Value.int _ _, Value.int _ _]) _ _ _); k_dflt (refine' wpAny_wk ?zzw1 ?zzw2 ?zzw3 ?zzw4 ?zzw5 (apply_div _ _ _ _ _ _ _ _ _ _ _ _ _ _ _ _ _ _ _ _ _ ?zzB ?zzF ?zzX ?zzT ?zzhk ?zzN ?zzhx ?zzhy ?zzhy0 ?_); (case zzB => k_asm); (case zzF => k_asm); (case zzN => k_asm); (case zzw3 => exact rfl); (case zzX => k_asm); (case zzT => k_asm); (case zzhk => first | exact rfl | assumption); (case zzw1 => exact rfl); (case zzw2 => exact Nat.le_of_ble_eq_true rfl); (case zzw4 => exact rfl); (case zzw5 => exact Nat.le_of_ble_eq_true rfl); (case zzhx => assumption); (case zzhy => assumption); (case zzhy0 => assumption)); intro _ _ _ _ _; (try dsimp only); (try k_sweep))
  k_with "own call builtin:list.append" => ((with_reducible show wpAny _ _ (call (Value.builtin _) [Value.ref _, _]) _ _ _); k_dflt (refine' append_K ?zzk1 ?zzk2 ?zzk3 ?_ ?zzz; (case zzk1 => k_asm); (case zzk2 => k_asm); (case zzk3 => k_upd); (case zzz => (rw [List.size_toArray, sizeLine_eq]; omega)); k_whole); intro _ _ _; (try k_sweep))
  k_with "own pyIter ref" => ((with_reducible show wpAny _ _ (pyIter (Value.ref _)) (fun it s₂ => LoopAtV _ _ _ _ _ _ _ _ _ it s₂) _ _); k_dflt (refine' tk_list Int.tmod Int.tdiv ?zzhh ?zzhl ?zzhi ?zzF ?zzN ?zzhoff ?zzhnum ?zzhsm ?zzhlen ?zzhb ?_ ?_; (case zzF => k_asm); (case zzN => k_asm); (case zzhh => exact rfl); (case zzhl => assumption); (case zzhi => assumption); (case zzhnum => exact rfl); (case zzhsm => assumption); (case zzhlen => assumption); (case zzhoff => first | exact lt_ne (by assumption) | exact allLt_ne (by assumption)); (case zzhb => assumption)))
  k_with "own pyIter ref" => ((with_reducible show wpAny _ _ (pyIter (Value.ref _)) (fun it s₂ => LoopAtV _ _ _ _ _ _ _ _ _ it s₂) _ _); k_dflt (refine' tk_list Int.fmod Int.fdiv ?zzhh ?zzhl ?zzhi ?zzF ?zzN ?zzhoff ?zzhnum ?zzhsm ?zzhlen ?zzhb ?_ ?_; (case zzF => k_asm); (case zzN => k_asm); (case zzhh => exact rfl); (case zzhl => assumption); (case zzhi => assumption); (case zzhnum => exact rfl); (case zzhsm => assumption); (case zzhlen => assumption); (case zzhoff => first | exact lt_ne (by assumption) | exact allLt_ne (by assumption)); (case zzhb => assumption)))
  revert X; k_fill; intro X
  refine wpAny_call ?_
  k_dflt cell_enter
  k_steps
  · refine tk_end (by assumption) (by assumption) (by assumption) (by exact rfl) (sm_fdiv (by assumption) (by assumption)) ?_
    intro z h1 h2 h3
    simp only [h1, h2, h3, if_false]
  · refine ret _ _ _ _ _ _ _ (by assumption) (by assumption) (by assumption) (And.left (by assumption)) (by assumption) (by assumption)
end Mine
end
theorem Mine.calm_B6 : True ∧ True := by
  w_top off
  k_with_none
  (try walk1)
  all_goals trivial
section
open PySem PySem.W PySem.Calls PySem.Spec PyProof.Rows
namespace Mine
def bld (x : Int) : List Int → List Int → Int
  | d :: ds, b :: bs => bld x ds bs * b + d
  | _, _ => x
theorem bld_drop {x : Int} {ds bs : List Int} {k : Nat} (hd : k < ds.length) (hb : k < bs.length) : bld x (ds.drop k) (bs.drop k) = bld x (ds.drop (k + 1)) (bs.drop (k + 1)) * bs.getD k 0 + ds.getD k 0 := by
  rw [List.drop_eq_getElem_cons hd, List.drop_eq_getElem_cons hb]
  show bld x _ _ * _ + _ = _
  rw [List.getD_eq_getElem?_getD, List.getD_eq_getElem?_getD, List.getElem?_eq_getElem hd, List.getElem?_eq_getElem hb]
  rfl
theorem mulOk_base {b : Int} (h : b.natAbs ≤ 10 ^ 8) (z : Int) : IntMulOk z b := by
  refine PySem.IntMulOk.of_right ?_
  unfold Builtin.Int.intBits
  split
  · exact Nat.zero_le _
  · rename_i h0
    have h0' : b.natAbs ≠ 0 := by simpa using h0
    exact (Nat.log2_lt h0').mpr (Nat.lt_of_le_of_lt h (by decide))
def BdPost (h₀ : Heap) (L : Addr) (m₀ : Str → Option Value) (led : List (Addr × Obj)) (x0 : Int) (ds bs : List Int) (k : Nat) (s₁ : Shared) (Q : Flow → Shared → Prop) (f : Flow) (s₂ : Shared) : Prop :=
  match f with
  | .ret v => Q (.ret v) s₂
  | .brk => Q .next s₂
  | _ => ∃ h' tk' m' t, s₂ = { s₁ with heap := h', toks := tk' } ∧ Fr h₀ L h' m' ∧ News h₀ L h' led ∧ m' (Str.ofString "number") = some (.int (bld x0 (ds.drop k) (bs.drop k)) t) ∧ (∀ z, z ≠ Str.ofString "place" → z ≠ Str.ofString "number" → m' z = m₀ z)
structure BdS where
  tk : Tok
  num : Int
section
variable {prog : Program} {w : World} {A : Around} {E : Value → Shared → Prop} {s : Shared} {env : Env} {h₀ : Heap} {body : List Stmt} {Q : Flow → Shared → Prop}
theorem bd_range {rr bl dl : Addr} {bvs dvs : List Value} {bs ds : List Int} {nb nd : Nat} {m₀ : Str → Option Value} {news : List (Addr × Obj)} {x0 : Int} {t0 t1 t2 t3 : Tok}
    (hh : A.handled = none) (hr : IsRange s.heap rr ((bs.length : Int) - 1) (-1) (-1) t1 t2 t3) (_hI : IntsAre bvs bs) (_hJ : IntsAre dvs ds) (hbm : (bl, listOf bvs.toArray nb) ∈ news) (hdm : (dl, listOf dvs.toArray nd) ∈ news)
    (F : Fr h₀ env.locals s.heap m₀) (N : News h₀ env.locals s.heap news) (hnum : m₀ (Str.ofString "number") = some (.int x0 t0)) (hlen : bs.length ≤ 64) (hdl : ds.length = bs.length) (hb : ∀ b ∈ bs, b.natAbs ≤ 10 ^ 8)
    (turn : ∀ (k : Int) (y : Int) (tb tk : Tok) (h : Heap) (tk' : Nat) (led : List (Addr × Obj)), 0 ≤ k → k < (bs.length : Int) → k < (ds.length : Int) → k < 2 ^ 62 → y = bld x0 (ds.drop (k.toNat + 1)) (bs.drop (k.toNat + 1)) → (∀ z, IntMulOk z (bs.getD k.toNat 0)) →
      (bl, listOf bvs.toArray nb) ∈ led → (dl, listOf dvs.toArray nd) ∈ led →
      Fr h₀ env.locals h (fun z => if z = Str.ofString "place" then some (.int k tb) else if z = Str.ofString "number" then some (.int y tk) else m₀ z) → News h₀ env.locals h led →
      wpAny (model prog w) A (execs body env) (BdPost h₀ env.locals m₀ led x0 ds bs k.toNat { s with heap := h, toks := tk' } Q) E { s with heap := h, toks := tk' })
    (done : ∀ (tk : Tok) (u : Str → Option Value) (h : Heap) (tk' : Nat),
      Fr h₀ env.locals h (fun z => if z = Str.ofString "place" then u z else if z = Str.ofString "number" then some (.int (bld x0 ds bs) tk) else m₀ z) → News h₀ env.locals h news → Q .next { s with heap := h, toks := tk' }) :
    wpAny (model prog w) A (pyIter (.ref rr)) (fun it s₂ => LoopAtV prog w A h₀ env (Str.ofString "place") body Q E it s₂) E s := by
  have hz : ((bs.length : Int) - 1 - (-1)).toNat = bs.length := by omega
  refine kst_rangeD (σ := BdS) (n := bs.length) (fun (_ : BdS) => news) (fun (c : BdS) => [(Str.ofString "number", .int c.num c.tk)]) (fun _ => True) []
    (fun (pre : List Int) (c : BdS) => c.num = bld x0 (ds.drop (bs.length - pre.length)) (bs.drop (bs.length - pre.length))) ⟨t0, x0⟩ hh hr (small_down (by omega) (by omega) (by omega) (by omega)) ((rangeSize_downNat _ _).trans (by rw [hz])) F N trivial ?_ ?_ ?_ ?_
  · intro p hp
    rcases List.mem_cons.mp hp with rfl | hp
    · exact hnum
    · cases hp
  · show x0 = bld x0 (ds.drop (bs.length - 0)) (bs.drop (bs.length - 0))
    rw [Nat.sub_zero, List.drop_length, show ds.drop bs.length = [] by rw [← hdl, List.drop_length]]
    rfl
  · rintro ⟨tk, num⟩ pre k tb u h tk' own hk hlt hown _ hnum' F₁ N₁
    dsimp only at hnum'
    have hk0 : k.toNat = bs.length - 1 - pre.length := by omega
    have hk1 : bs.length - pre.length = k.toNat + 1 := by omega
    have hkb : k.toNat < bs.length := by omega
    have hbk : bs.getD k.toNat 0 ∈ bs := by
      rw [List.getD_eq_getElem?_getD, List.getElem?_eq_getElem hkb]
      exact List.getElem_mem _
    have F₂ : Fr h₀ env.locals h (fun z => if z = Str.ofString "place" then some (.int k tb) else if z = Str.ofString "number" then some (.int num tk) else m₀ z) := by
      refine fr_eq F₁ fun y => ?_
      simp [kstB]
    rw [hk1] at hnum'
    refine wpAny_mono (turn k num tb tk h tk' (news ++ own) (by omega) (by omega) (by omega) (by omega) hnum' (mulOk_base (hb _ hbk)) (List.mem_append_left _ hbm) (List.mem_append_left _ hdm) F₂ N₁) (fun f s₂ p => ?_) fun _ _ x => x
    have up : (∃ h' tk'' m' t, s₂ = { s with heap := h', toks := tk'' } ∧ Fr h₀ env.locals h' m' ∧ News h₀ env.locals h' (news ++ own) ∧ m' (Str.ofString "number") = some (.int (bld x0 (ds.drop k.toNat) (bs.drop k.toNat)) t) ∧ (∀ z, z ≠ Str.ofString "place" → z ≠ Str.ofString "number" → m' z = m₀ z)) →
        InvEndN h₀ env.locals (KstS (fun (_ : BdS) => news) (fun (c : BdS) => [(Str.ofString "number", .int c.num c.tk)]) (fun _ => True) (Str.ofString "place") [] m₀
          (fun (pre : List Int) (c : BdS) => c.num = bld x0 (ds.drop (bs.length - pre.length)) (bs.drop (bs.length - pre.length))) (pre ++ [k])) own (((fun (_ : BdS) => news) ⟨t0, x0⟩).map (·.1)) { s with heap := h, toks := tk' } s₂ := by
      rintro ⟨h', tk'', m', t', rfl, F', N', hm', ho'⟩
      refine kst_end (σ := BdS) ⟨t', bld x0 (ds.drop k.toNat) (bs.drop k.toNat)⟩ F' N' (fun p hp => List.mem_append_left _ hp) (fun p hp => List.mem_append_right _ hp) rfl trivial ?_ ?_ ?_
      · intro p hp
        rcases List.mem_cons.mp hp with rfl | hp
        · exact hm'
        · cases hp
      · intro z h1 h2 _
        exact ho' z h1 (h2 _ (.head _))
      · show bld x0 _ _ = bld x0 _ _
        rw [List.length_append, List.length_singleton, show bs.length - (pre.length + 1) = k.toNat by omega]
    cases f with
    | ret v => exact p
    | brk => exact p
    | next => exact up p
    | cont => exact up p
  · rintro ⟨tk, num⟩ u h tk' _ hnum' F₁ N₁
    dsimp only at hnum'
    rw [downKs_length, Nat.sub_self, List.drop_zero, List.drop_zero] at hnum'
    subst hnum'
    refine done tk u h tk' ?_ N₁
    refine fr_eq F₁ fun y => ?_
    simp [kstB]
theorem bd_end {L : Addr} {m₀ m' : Str → Option Value} {led : List (Addr × Obj)} {x0 y : Int} {ds bs : List Int} {k : Int} {s₁ : Shared} {h' : Heap} {tk' : Nat} {t2 : Tok}
    (F : Fr h₀ L h' m') (N : News h₀ L h' led) (h0 : 0 ≤ k) (h1 : k < (bs.length : Int)) (h2 : k < (ds.length : Int)) (hy : y = bld x0 (ds.drop (k.toNat + 1)) (bs.drop (k.toNat + 1)))
    (hm : m' (Str.ofString "number") = some (.int (y * bs.getD k.toNat 0 + ds.getD k.toNat 0) t2)) (ho : ∀ z, z ≠ Str.ofString "place" → z ≠ Str.ofString "number" → m' z = m₀ z) : BdPost h₀ L m₀ led x0 ds bs k.toNat s₁ Q .next { s₁ with heap := h', toks := tk' } :=
  ⟨h', tk', m', t2, rfl, F, N, by rw [bld_drop (by omega) (by omega), ← hy]; exact hm, ho⟩
theorem len_led {L l : Addr} {m : Str → Option Value} {news : List (Addr × Obj)} {vs : List Value} {ns : List Int} {n : Nat} {QV : Value → Shared → Prop} (N : News h₀ L s.heap news) (hm : (l, listOf vs.toArray n) ∈ news) (hi : IntsAre vs ns) (hlen : ns.length ≤ 64)
    (h : QV (.int ns.length (s.toks + 1)) { s with toks := s.toks + 1 + 1 }) : wpAny (model prog w) A (call (.builtin "len") [.ref l]) QV E s := by
  have e : vs.toArray.size = ns.length := by rw [List.size_toArray]; exact hi.length
  refine len_list (PySem.IsL.isList (n := n) (N _ hm).1) (by omega) ?_
  rw [e]
  exact h
theorem item_led {L l : Addr} {news : List (Addr × Obj)} {vs : List Value} {ns : List Int} {n : Nat} {k : Int} {u : Tok} {value slice : PySem.Expr} {QV : Value → Shared → Prop} (N : News h₀ L s.heap news) (hm : (l, listOf vs.toArray n) ∈ news) (hi : IntsAre vs ns) (h0 : 0 ≤ k) (h1 : k < ns.length) (hfit : k < 2 ^ 62)
    (h : ∀ t, QV (.int (ns.getD k.toNat 0) t) s) (hs : subscripted slice false (.ref l) (.int k u) = operate [.ref l, .int k u] (getItem (.ref l) (.int k u)) := by with_unfolding_all rfl) :
    wpAny (model prog w) A (subscriptTail value slice (.ref l) (.int k u)) QV E s := ksa_sub N hm hi h0 h1 (Int.lt_trans hfit (by decide)) h hs
end
end Mine
end
theorem Mine.calm_B7 : True ∧ True := by
  w_top off
  k_with_none
  (try walk1)
  all_goals trivial
section
open PySem PySem.W PySem.Calls PySem.Spec PyProof.Rows
namespace Mine
theorem built_spec {w : World} {p : Program} {loose : List Str} {mean : ExcName → Option Value} {mg mb : Str → Option Value}
    (cn : Str) (cs : Scope) (L a : Addr) (ccd : Value) (cl : List (Str × Addr)) (outer : List Env) (A₀ : Around) (base h₀ : Heap) (m : Str → Option Value)
    (news : List (Addr × Obj)) (bl dl : Addr) (bvs dvs : List Value) (nb nd : Nat) (bs ds : List Int) (x : Int) (tx : Tok) (s : Shared) (Q E : Value → Shared → Prop)
    (B : Below A₀ base outer h₀) (F : Fr h₀ L s.heap m) (X : (hd.heap_39 w.params).In h₀) (T : Top p loose mean mg mb h₀) (hk : cs.kind = .function) (N : News h₀ L s.heap news)
    (hbl : (bl, listOf bvs.toArray nb) ∈ news) (hdl : (dl, listOf dvs.toArray nd) ∈ news) (hI : IntsAre bvs bs) (hJ : IntsAre dvs ds) (hlen : bs.length ≤ 64) (hdlen : ds.length = bs.length) (hb : ∀ b ∈ bs, b.natAbs ≤ 10 ^ 8)
    (ret : ∀ (t : Tok) (h' : Heap) (tk' : Nat), Fr h₀ L h' m → News h₀ L h' news → Q (.int (bld x ds bs) t) { s with heap := h', toks := tk' }) :
    wpAny (model PySem.Challenge.rw_rh0067_01.row.prog w) (ktrTop 440 700 none cn cs L a ccd cl outer) (call (.ref 235) [.ref dl, .ref bl, .int x tx]) Q E s := by
  k_with_none
  k_with "own all" => assumption
  k_with "own binaryOp Mult int int" => (k_dflt (refine mul_int ?_ ?zzy; (case zzy => exact (by assumption : ∀ z : Int, IntMulOk z _) _)))
  k_with "own pyIter ref" => ((with_reducible show wpAny _ _ (pyIter (Value.ref _)) (fun it s₂ => LoopAtV _ _ _ _ _ _ _ _ _ it s₂) _ _); k_dflt (refine' bd_range ?zzhh ?zzhr ?zzhI ?zzhJ ?zzhbm ?zzhdm ?zzF ?zzN ?zzhnum ?zzhlen ?zzhdl ?zzhb ?_ ?_; (case zzF => k_asm); (case zzN => k_asm); (case zzhh => exact rfl); (case zzhr => assumption); (case zzhI => assumption); (case zzhbm => assumption); (case zzhdl => assumption); (case zzhJ => assumption); (case zzhdm => assumption); (case zzhnum => exact rfl); (case zzhlen => assumption); (case zzhb => assumption)))
  k_with "own call builtin:len" => ((with_reducible show wpAny _ _ (call (Value.builtin "len") [Value.ref _]) _ _ _); k_dflt (refine' len_led (m := fun _ => none) ?zzN ?zzhm ?zzhi ?zzhl ?_; (case zzN => k_asm); (case zzhm => assumption); (case zzhi => assumption); (case zzhl => first | assumption | omega)); (try dsimp only))
  k_with "own subscriptTail" => ((with_reducible show wpAny _ _ (subscriptTail _ _ (Value.ref _) (Value.int _ _)) _ _ _); k_dflt (refine' item_led ?zzN ?zzhm ?zzhi ?zzh0 ?zzh1 ?zzh2 ?_; (case zzN => k_asm); (case zzhm => assumption); (case zzhi => assumption); (case zzh0 => assumption); (case zzh1 => assumption); (case zzh2 => assumption)); intro _)
  have hbvs : bvs.length = bs.length := hI.length
  revert X; k_fill; intro X
  refine wpAny_call ?_
  k_dflt cell_enter
  k_steps
  · refine bd_end (by assumption) (by assumption) (by assumption) (by assumption) (by assumption) (by assumption) (by exact rfl) ?_
    intro z h1 h2
    simp only [h1, h2, if_false]
  · exact ret _ _ _ (by assumption) (by assumption)
end Mine
end
theorem Mine.calm_B8 : True ∧ True := by
  w_top off
  k_with_none
  (try walk1)
  all_goals trivial
section
open PySem PySem.W PySem.Calls PySem.Spec PyProof.Rows
namespace Mine
theorem va_self {kvs : List (Str × Value)} {k : Str} (h : valueAt kvs k = none) (v : Value) : valueAt (kvs ++ [(k, v)]) k = some v := by
  unfold valueAt at *
  rw [List.find?_append]
  rw [Option.map_eq_none_iff] at h
  rw [h]; simp
theorem va_mono {kvs : List (Str × Value)} {k k' : Str} {v u : Value} (h : valueAt kvs k' = some u) : valueAt (kvs ++ [(k, v)]) k' = some u := by
  unfold valueAt at *
  obtain ⟨a, ha, rfl⟩ := Option.map_eq_some_iff.mp h
  rw [List.find?_append, ha]; rfl
theorem va_inv {kvs : List (Str × Value)} {k k' : Str} {v u : Value} (h : valueAt (kvs ++ [(k, v)]) k' = some u) : valueAt kvs k' = some u ∨ u = v := by
  unfold valueAt at *
  rw [List.find?_append] at h
  cases e : kvs.find? (fun kv => decide (kv.1 = k')) with
  | some a => rw [e] at h; exact .inl h
  | none =>
    rw [e] at h
    right
    simp only [Option.none_or, List.find?_cons, List.find?_nil] at h
    split at h
    · exact (Option.some.inj h).symm
    · cases h
theorem ak_self {xs : List (List Int × Addr × Value)} {k : List Int} (h : atKey xs k = none) (v : Addr × Value) : atKey (xs ++ [(k, v)]) k = some v := by
  unfold atKey at *
  rw [List.find?_append]
  rw [Option.map_eq_none_iff] at h
  rw [h]; simp
theorem ak_mono {xs : List (List Int × Addr × Value)} {k k' : List Int} {v u : Addr × Value} (h : atKey xs k' = some u) : atKey (xs ++ [(k, v)]) k' = some u := by
  unfold atKey at *
  obtain ⟨a, ha, rfl⟩ := Option.map_eq_some_iff.mp h
  rw [List.find?_append, ha]; rfl
theorem ak_inv {xs : List (List Int × Addr × Value)} {k k' : List Int} {v u : Addr × Value} (h : atKey (xs ++ [(k, v)]) k' = some u) : atKey xs k' = some u ∨ u = v := by
  unfold atKey at *
  rw [List.find?_append] at h
  cases e : xs.find? (fun kv => decide (kv.1 = k')) with
  | some a => rw [e] at h; exact .inl h
  | none =>
    rw [e] at h
    right
    simp only [Option.none_or, List.find?_cons, List.find?_nil] at h
    split at h
    · exact (Option.some.inj h).symm
    · cases h
section
variable {prog : Program} {w : World} {A : Around} {E : Value → Shared → Prop} {s : Shared} {h₀ : Heap}
theorem len_raw {L l : Addr} {news : List (Addr × Obj)} {vs : List Value} {n : Nat} {QV : Value → Shared → Prop} (N : News h₀ L s.heap news) (hm : (l, listOf vs.toArray n) ∈ news) (hlen : vs.length ≤ 10000)
    (h : QV (.int vs.length (s.toks + 1)) { s with toks := s.toks + 1 + 1 }) : wpAny (model prog w) A (call (.builtin "len") [.ref l]) QV E s := by
  refine len_list (PySem.IsL.isList (n := n) (N _ hm).1) (by rw [List.size_toArray]; omega) ?_
  rw [List.size_toArray]
  exact h
end
end Mine
end
theorem Mine.calm_B9 : True ∧ True := by
  w_top off
  k_with_none
  (try walk1)
  all_goals trivial
section
open PySem PySem.W PySem.Calls PySem.Spec PyProof.Rows
namespace Mine
theorem atom_old {w : World} {p : Program} {loose : List Str} {mean : ExcName → Option Value} {mg mb : Str → Option Value}
    (cn : Str) (cs : Scope) (L a : Addr) (ccd : Value) (cl : List (Str × Addr)) (outer : List Env) (A₀ : Around) (base h₀ : Heap) (m : Str → Option Value)
    (x dx lt da lf df : Addr) (e1 e2 e3 e4 : Int) (k1 k2 k3 k4 : Tok) (ol od of1 of2 : Obj) (kvs : List (Str × Value)) (rest : List (Addr × Obj)) (t : Str) (tt : Tok) (i : Int) (ti : Tok) (s : Shared) (Q E : Value → Shared → Prop)
    (B : Below A₀ base outer h₀) (F : Fr h₀ L s.heap m) (X : (hd.heap_39 w.params).In h₀) (T : Top p loose mean mg mb h₀) (hk : cs.kind = .function)
    (N : News h₀ L s.heap ((x, instObj 154 dx) :: (dx, dictOf [⟨e1, .str (Str.ofString "texts") k1, .ref lt⟩, ⟨e2, .str (Str.ofString "atom_numbers") k2, .ref da⟩, ⟨e3, .str (Str.ofString "functors") k3, .ref lf⟩, ⟨e4, .str (Str.ofString "functor_numbers") k4, .ref df⟩] 4) :: (lt, ol) :: (da, od) :: (lf, of1) :: (df, of2) :: rest))
    (hda : od.IsDictOf (strKind PySem.Challenge.rw_rh0067_01.row.prog w) kvs) (dam : (da == sysModules) = false) (hv : valueAt kvs t = some (.int i ti)) (hi : 0 ≤ i)
    (ret : ∀ (h' : Heap) (tk' : Nat), Fr h₀ L h' m → News h₀ L h' ((x, instObj 154 dx) :: (dx, dictOf [⟨e1, .str (Str.ofString "texts") k1, .ref lt⟩, ⟨e2, .str (Str.ofString "atom_numbers") k2, .ref da⟩, ⟨e3, .str (Str.ofString "functors") k3, .ref lf⟩, ⟨e4, .str (Str.ofString "functor_numbers") k4, .ref df⟩] 4) :: (lt, ol) :: (da, od) :: (lf, of1) :: (df, of2) :: rest) →
      Q (.int i ti) { s with heap := h', toks := tk' }) :
    wpAny (model PySem.Challenge.rw_rh0067_01.row.prog w) (ktrTop 500 1000 none cn cs L a ccd cl outer) (call (.ref 88) [.ref x, .str t tt]) Q E s := by
  k_with_none
  k_with "own all" => assumption
  k_with "own getMethod ref" => (k_dflt (refine' kdg_method (knd := PySem.strKind _ _) ?zzN ?zzhm ?zzhd ?_; (case zzN => k_asm); (case zzhm => k_mem); (case zzhd => assumption)))
  k_with "own call builtin:dict.get" => (k_dflt (refine' kdg_get2 (knd := PySem.strKind _ _) ?zzN ?zzhm ?zzhd ?zzlo ?zzhk _ ?zzhl ?_; (case zzN => k_asm); (case zzhm => k_mem); (case zzhd => assumption); (case zzlo => assumption); (case zzhk => exact strKind_is _ _ _ _); (case zzhl => assumption); (try dsimp only [Option.getD])))
  k_with "own call builtin:len" => (k_dflt (refine' len_raw ?zzN ?zzhm ?zzhl ?_; (case zzN => k_asm); (case zzhm => k_mem); (case zzhl => assumption); (try dsimp only)))
  k_with "own call builtin:list.append" => ((with_reducible show wpAny _ _ (call (Value.builtin _) [Value.ref _, _]) _ _ _); k_dflt (refine' append_K ?zzk1 ?zzk2 ?zzk3 ?_ ?zzz; (case zzk1 => k_asm); (case zzk2 => k_asm); (case zzk3 => k_upd); (case zzz => (rw [List.size_toArray, sizeLine_eq]; omega)); k_whole); intro _ _ _; (try k_sweep))
  k_with "own setItem ref str" => (k_dflt (refine' kda_set (knd := PySem.strKind _ _) ?zzF ?zzN ?zzU ?zzhd ?zzhk ?zzhz ?_; (case zzF => k_asm); (case zzN => k_asm); (case zzU => k_updF); (case zzhd => assumption); (case zzhk => exact strKind_is _ _ _ _); (case zzhz => (rw [sizeLine_eq]; omega))); intro _ _ _ N' _; (try dsimp only at N'); (try k_sweep))
  revert X; k_fill; intro X
  refine wpAny_call ?_
  k_dflt cell_enter
  k_steps
  exact ret _ _ (by assumption) (by assumption)
theorem atom_new {w : World} {p : Program} {loose : List Str} {mean : ExcName → Option Value} {mg mb : Str → Option Value}
    (cn : Str) (cs : Scope) (L a : Addr) (ccd : Value) (cl : List (Str × Addr)) (outer : List Env) (A₀ : Around) (base h₀ : Heap) (m : Str → Option Value)
    (x dx lt da lf df : Addr) (e1 e2 e3 e4 : Int) (k1 k2 k3 k4 : Tok) (lts : List Value) (nt : Nat) (od of1 of2 : Obj) (kvs : List (Str × Value)) (rest : List (Addr × Obj)) (t : Str) (tt : Tok) (s : Shared) (Q E : Value → Shared → Prop)
    (B : Below A₀ base outer h₀) (F : Fr h₀ L s.heap m) (X : (hd.heap_39 w.params).In h₀) (T : Top p loose mean mg mb h₀) (hk : cs.kind = .function)
    (N : News h₀ L s.heap ((x, instObj 154 dx) :: (dx, dictOf [⟨e1, .str (Str.ofString "texts") k1, .ref lt⟩, ⟨e2, .str (Str.ofString "atom_numbers") k2, .ref da⟩, ⟨e3, .str (Str.ofString "functors") k3, .ref lf⟩, ⟨e4, .str (Str.ofString "functor_numbers") k4, .ref df⟩] 4) :: (lt, listOf lts.toArray nt) :: (da, od) :: (lf, of1) :: (df, of2) :: rest))
    (hda : od.IsDictOf (strKind PySem.Challenge.rw_rh0067_01.row.prog w) kvs) (dam : (da == sysModules) = false) (hv : valueAt kvs t = none) (hlen : lts.length ≤ 10000) (hlk : kvs.length ≤ 10000)
    (o1 : @LT.lt Nat _ dx x) (o2 : @LT.lt Nat _ x lt) (o3 : @LT.lt Nat _ lt da) (o4 : @LT.lt Nat _ da lf) (o5 : @LT.lt Nat _ lf df) (hr1 : ∀ p ∈ rest, p.1 ≠ lt) (hr2 : ∀ p ∈ rest, p.1 ≠ da)
    (ret : ∀ (ti : Tok) (od' : Obj) (h' : Heap) (tk' : Nat), od'.IsDictOf (strKind PySem.Challenge.rw_rh0067_01.row.prog w) (kvs ++ [(t, Value.int lts.length ti)]) → Fr h₀ L h' m → News h₀ L h' ((x, instObj 154 dx) :: (dx, dictOf [⟨e1, .str (Str.ofString "texts") k1, .ref lt⟩, ⟨e2, .str (Str.ofString "atom_numbers") k2, .ref da⟩, ⟨e3, .str (Str.ofString "functors") k3, .ref lf⟩, ⟨e4, .str (Str.ofString "functor_numbers") k4, .ref df⟩] 4) :: (lt, listOf (lts ++ [Value.str t tt]).toArray (nt + 1)) :: (da, od') :: (lf, of1) :: (df, of2) :: rest) →
      Q (.int lts.length ti) { s with heap := h', toks := tk' }) :
    wpAny (model PySem.Challenge.rw_rh0067_01.row.prog w) (ktrTop 500 1000 none cn cs L a ccd cl outer) (call (.ref 88) [.ref x, .str t tt]) Q E s := by
  k_with_none
  k_with "own all" => assumption
  k_with "own getMethod ref" => (k_dflt (refine' kdg_method (knd := PySem.strKind _ _) ?zzN ?zzhm ?zzhd ?_; (case zzN => k_asm); (case zzhm => k_mem); (case zzhd => assumption)))
  k_with "own call builtin:dict.get" => (k_dflt (refine' kdg_get2 (knd := PySem.strKind _ _) ?zzN ?zzhm ?zzhd ?zzlo ?zzhk _ ?zzhl ?_; (case zzN => k_asm); (case zzhm => k_mem); (case zzhd => assumption); (case zzlo => assumption); (case zzhk => exact strKind_is _ _ _ _); (case zzhl => assumption); (try dsimp only [Option.getD])))
  k_with "own call builtin:len" => (k_dflt (refine' len_raw ?zzN ?zzhm ?zzhl ?_; (case zzN => k_asm); (case zzhm => k_mem); (case zzhl => assumption); (try dsimp only)))
  k_with "own call builtin:list.append" => ((with_reducible show wpAny _ _ (call (Value.builtin _) [Value.ref _, _]) _ _ _); k_dflt (refine' append_K ?zzk1 ?zzk2 ?zzk3 ?_ ?zzz; (case zzk1 => k_asm); (case zzk2 => k_asm); (case zzk3 => k_upd); (case zzz => (rw [List.size_toArray, sizeLine_eq]; omega)); k_whole); intro _ _ _; (try k_sweep))
  k_with "own setItem ref str" => (k_dflt (refine' kda_set (knd := PySem.strKind _ _) ?zzF ?zzN ?zzU ?zzhd ?zzhk ?zzhz ?_; (case zzF => k_asm); (case zzN => k_asm); (case zzU => k_updF); (case zzhd => assumption); (case zzhk => exact strKind_is _ _ _ _); (case zzhz => (rw [sizeLine_eq]; omega))); intro _ _ _ N' _; (try dsimp only at N'); (try k_sweep))
  revert X; k_fill; intro X
  refine wpAny_call ?_
  k_dflt cell_enter
  k_steps
  refine' ret _ _ _ _ ?hd ?hF ?hN
  (case hF => assumption)
  (case hN => rw [← List.push_toArray]; assumption)
  (case hd => rw [← stored_absent hv]; assumption)
end Mine
end
theorem Mine.calm_B10 : True ∧ True := by
  w_top off
  k_with_none
  (try walk1)
  all_goals trivial
section
open PySem PySem.W PySem.Calls PySem.Spec PyProof.Rows
namespace Mine
abbrev tupO (a r : Int) (ta tr : Tok) : Obj := { cls := .type "tuple", data := .seq #[.int a ta, .int r tr] }
structure FunTab (prog : Program) (w : World) (odf : Obj) (xs : List (List Int × Addr × Value)) (keys : List (Addr × Obj)) : Prop where
  dfE : odf.ExactDict
  dfD : ∃ es ep, odf.data = .dict es ep ∧ es.toList = xs.map (entryOfKey (tupleKind (intKind prog w)))
  dfK : ∀ y ∈ xs, ∃ o items k, (y.2.1, o) ∈ keys ∧ o.cls = .type "tuple" ∧ o.data = .seq items k ∧ ItemsAre (intKind prog w) y.1 items.toList
  dfN : (xs.map (·.1)).Nodup
section
variable {prog : Program} {w : World} {A : Around} {E : Value → Shared → Prop} {s : Shared} {h₀ : Heap} {L df D : Addr} {m : Str → Option Value} {news keys : List (Addr × Obj)} {odf : Obj} {xs : List (List Int × Addr × Value)} {a r : Int} {ta tr : Tok} {g : Obj → List (Addr × Obj)}
theorem FunTab.at (x : FunTab prog w odf xs keys) {h : Heap} (N : News h₀ L h news) (hk : ∀ p ∈ keys, p ∈ news) (hd : (df, odf) ∈ news) : h.DictOfH (tupleKind (intKind prog w)) df xs := by
  obtain ⟨es, ep, hdat, hes⟩ := x.dfD
  refine ⟨odf, es, ep, (N _ hd).1, x.dfE, hdat, hes, fun y hy => ?_, x.dfN⟩
  obtain ⟨o, items, k, hm, hc, hdt, hi⟩ := x.dfK y hy
  exact ⟨o, items, k, (N _ (hk _ hm)).1, hc, hdt, hi⟩
theorem tup_key {h : Heap} (N : News h₀ L h news) (hm : (D, tupO a r ta tr) ∈ news) : IsTupleKey (intKind prog w) h [a, r] D :=
  ⟨_, _, _, (N _ hm).1, rfl, rfl, .cons (intKind_is _ _ _ _) (.cons (intKind_is _ _ _ _) .nil)⟩
theorem ft_method {pl : Sem Bool} {Q : Value × List Value → Shared → Prop} (x : FunTab prog w odf xs keys) (N : News h₀ L s.heap news) (hk : ∀ p ∈ keys, p ∈ news) (hd : (df, odf) ∈ news) (h : Q (.builtin "dict.get", [.ref df]) s) :
    wpAny (model prog w) A (getMethod (.ref df) "get" pl) Q E s :=
  have hD := x.at N hk hd
  getMethod_builtin hD.typeIs PySem.F.plainAttrs_dict PySem.F.slot_dict_get PySem.F.type_dict_get (dictOfH_noDict hD) h
theorem ft_get {dflt : Value} {Q : Value → Shared → Prop} (x : FunTab prog w odf xs keys) (N : News h₀ L s.heap news) (hk : ∀ p ∈ keys, p ∈ news) (hd : (df, odf) ∈ news) (lo : (df == sysModules) = false) (hm : (D, tupO a r ta tr) ∈ news) (hu : A.units + 1 < cLine)
    (v : Option (Addr × Value)) (hl : atKey xs [a, r] = v) (h : Q ((v.map (·.2)).getD dflt) { s with toks := s.toks + 3 }) :
    wpAny (model prog w) A (call (.builtin "dict.get") [.ref df, .ref D, dflt]) Q E s :=
  have hD := x.at N hk hd
  call_meetsIn PySem.F.slot_dict_get hD.typeIs PySem.F.entry_dict_get (PySem.F.args_dict_get_3 _ _ _) (meetsH_dict_get_default (tupleKind (intKind prog w)) df D lo dflt) ⟨tupleKind_room_in1 hu, [a, r], xs, tup_key N hm, hD, by rw [hl]; exact h⟩
theorem ft_set {v : Value} {Q : Unit → Shared → Prop} (F : Fr h₀ L s.heap m) (x : FunTab prog w odf xs keys) (N : News h₀ L s.heap news) (hk : ∀ p ∈ keys, p ∈ news) (U : UpdF df odf news g) (hm : (D, tupO a r ta tr) ∈ news) (hu : A.units + 1 < cLine) (hl : atKey xs [a, r] = none) (hz : xs.length ≤ sizeLine)
    (h : ∀ h' o', Fr h₀ L h' m → News h₀ L h' (g o') → FunTab prog w o' (xs ++ [([a, r], D, v)]) ((D, tupO a r ta tr) :: keys) → Q () { s with heap := h', toks := s.toks + 3 }) :
    wpAny (model prog w) A (setItem (.ref df) (.ref D) v) Q E s := by
  obtain ⟨pre, post, rfl, hg, a1, a2⟩ := U.split
  have hdm : (df, odf) ∈ pre ++ (df, odf) :: post := List.mem_append_right _ (.head _)
  have hmm := N _ hdm
  refine wpAny_setItem_heap (hsz := hz) (k := [a, r]) (tupleKind_room_in1 hu) (tup_key N hm) (x.at N hk hdm) fun h' hD hs => ?_
  obtain ⟨o', es, ep, ho', hE, hd, he, his, hn⟩ := hD
  rw [storedH_new hl] at he hn
  refine h h' o' (F.change hs hmm.2.1 hmm.2.2) (hg o' ▸ N.setIn a1 a2 hs ho') ⟨hE, ⟨es, ep, hd, he⟩, fun y hy => ?_, hn⟩
  rcases List.mem_append.mp hy with hy | hy
  · obtain ⟨o, items, k, hm', r1⟩ := x.dfK y hy
    exact ⟨o, items, k, .tail _ hm', r1⟩
  · rw [List.mem_singleton.mp hy]
    exact ⟨_, _, _, .head _, rfl, rfl, .cons (intKind_is _ _ _ _) (.cons (intKind_is _ _ _ _) .nil)⟩
end
end Mine
end
theorem Mine.calm_B11 : True ∧ True := by
  w_top off
  k_with_none
  (try walk1)
  all_goals trivial
section
open PySem PySem.W PySem.Calls PySem.Spec PyProof.Rows
namespace Mine
theorem functor_old {w : World} {p : Program} {loose : List Str} {mean : ExcName → Option Value} {mg mb : Str → Option Value}
    (cn : Str) (cs : Scope) (L a : Addr) (ccd : Value) (cl : List (Str × Addr)) (outer : List Env) (A₀ : Around) (base h₀ : Heap) (m : Str → Option Value)
    (x dx lt da lf df : Addr) (e1 e2 e3 e4 : Int) (k1 k2 k3 k4 : Tok) (ol od of1 odf : Obj) (xs : List (List Int × Addr × Value)) (keys rest : List (Addr × Obj)) (ia ir : Int) (ta tr : Tok) (ka : Addr) (i : Int) (ti : Tok) (s : Shared) (Q E : Value → Shared → Prop)
    (B : Below A₀ base outer h₀) (F : Fr h₀ L s.heap m) (X : (hd.heap_39 w.params).In h₀) (T : Top p loose mean mg mb h₀) (hk : cs.kind = .function)
    (N : News h₀ L s.heap ((x, instObj 154 dx) :: (dx, dictOf [⟨e1, .str (Str.ofString "texts") k1, .ref lt⟩, ⟨e2, .str (Str.ofString "atom_numbers") k2, .ref da⟩, ⟨e3, .str (Str.ofString "functors") k3, .ref lf⟩, ⟨e4, .str (Str.ofString "functor_numbers") k4, .ref df⟩] 4) :: (lt, ol) :: (da, od) :: (lf, of1) :: (df, odf) :: (keys ++ rest)))
    (hT : FunTab PySem.Challenge.rw_rh0067_01.row.prog w odf xs keys) (dfm : (df == sysModules) = false) (hv : atKey xs [ia, ir] = some (ka, .int i ti)) (hi : 0 ≤ i)
    (ret : ∀ (h' : Heap) (tk' : Nat), Fr h₀ L h' m → News h₀ L h' ((x, instObj 154 dx) :: (dx, dictOf [⟨e1, .str (Str.ofString "texts") k1, .ref lt⟩, ⟨e2, .str (Str.ofString "atom_numbers") k2, .ref da⟩, ⟨e3, .str (Str.ofString "functors") k3, .ref lf⟩, ⟨e4, .str (Str.ofString "functor_numbers") k4, .ref df⟩] 4) :: (lt, ol) :: (da, od) :: (lf, of1) :: (df, odf) :: (keys ++ rest)) →
      Q (.int i ti) { s with heap := h', toks := tk' }) :
    wpAny (model PySem.Challenge.rw_rh0067_01.row.prog w) (ktrTop 500 1000 none cn cs L a ccd cl outer) (call (.ref 102) [.ref x, .int ia ta, .int ir tr]) Q E s := by
  k_with_none
  k_with "own all" => assumption
  k_with "own getMethod ref" => (k_dflt (refine' ft_method ?zzx ?zzN ?zzhk ?zzhm ?_; (case zzx => assumption); (case zzN => k_asm); (case zzhk => (intro _ hp; repeat (first | exact List.mem_append_left _ hp | apply List.mem_cons_of_mem))); (case zzhm => k_mem)))
  k_with "own call builtin:dict.get" => (k_dflt (refine' ft_get ?zzx ?zzN ?zzhk ?zzhd ?zzlo ?zzhm ?zzhu _ ?zzhl ?_; (case zzx => assumption); (case zzN => k_asm); (case zzhk => (intro _ hp; repeat (first | exact List.mem_append_left _ hp | apply List.mem_cons_of_mem))); (case zzhd => k_mem); (case zzlo => assumption); (case zzhm => k_mem); (case zzhu => exact Nat.le_of_ble_eq_true rfl); (case zzhl => assumption); (try dsimp only [Option.getD, Option.map])))
  k_with "own call builtin:len" => (k_dflt (refine' len_raw ?zzN ?zzhm ?zzhl ?_; (case zzN => k_asm); (case zzhm => k_mem); (case zzhl => assumption); (try dsimp only)))
  k_with "own call builtin:list.append" => ((with_reducible show wpAny _ _ (call (Value.builtin _) [Value.ref _, _]) _ _ _); k_dflt (refine' append_K ?zzk1 ?zzk2 ?zzk3 ?_ ?zzz; (case zzk1 => k_asm); (case zzk2 => k_asm); (case zzk3 => k_upd); (case zzz => (rw [List.size_toArray, sizeLine_eq]; omega)); k_whole); intro _ _ _; (try k_sweep))
  k_with "own setItem ref ref" => (k_dflt (refine' ft_set ?zzF ?zzx ?zzN ?zzhk ?zzU ?zzhm ?zzhu ?zzhl ?zzhz ?_; (case zzF => k_asm); (case zzx => assumption); (case zzN => k_asm); (case zzhk => (intro _ hp; repeat (first | exact List.mem_append_left _ hp | apply List.mem_cons_of_mem))); (case zzU => k_updF); (case zzhm => k_mem); (case zzhu => exact Nat.le_of_ble_eq_true rfl); (case zzhl => assumption); (case zzhz => (rw [sizeLine_eq]; omega))); intro _ _ _ N' _; (try dsimp only at N'); (try k_sweep))
  revert X; k_fill; intro X
  refine wpAny_call ?_
  k_dflt cell_enter
  k_steps
  refine' ret _ _ ?hF (cb_drop ?hN ?hs)
  (case hF => assumption)
  (case hN => assumption)
  (case hs => exact fun p hp => .tail _ hp)
theorem functor_new {w : World} {p : Program} {loose : List Str} {mean : ExcName → Option Value} {mg mb : Str → Option Value}
    (cn : Str) (cs : Scope) (L a : Addr) (ccd : Value) (cl : List (Str × Addr)) (outer : List Env) (A₀ : Around) (base h₀ : Heap) (m : Str → Option Value)
    (x dx lt da lf df : Addr) (e1 e2 e3 e4 : Int) (k1 k2 k3 k4 : Tok) (ol od : Obj) (lfs : List Value) (nf : Nat) (odf : Obj) (xs : List (List Int × Addr × Value)) (keys rest : List (Addr × Obj)) (ia ir : Int) (ta tr : Tok) (s : Shared) (Q E : Value → Shared → Prop)
    (B : Below A₀ base outer h₀) (F : Fr h₀ L s.heap m) (X : (hd.heap_39 w.params).In h₀) (T : Top p loose mean mg mb h₀) (hk : cs.kind = .function)
    (N : News h₀ L s.heap ((x, instObj 154 dx) :: (dx, dictOf [⟨e1, .str (Str.ofString "texts") k1, .ref lt⟩, ⟨e2, .str (Str.ofString "atom_numbers") k2, .ref da⟩, ⟨e3, .str (Str.ofString "functors") k3, .ref lf⟩, ⟨e4, .str (Str.ofString "functor_numbers") k4, .ref df⟩] 4) :: (lt, ol) :: (da, od) :: (lf, listOf lfs.toArray nf) :: (df, odf) :: (keys ++ rest)))
    (hT : FunTab PySem.Challenge.rw_rh0067_01.row.prog w odf xs keys) (dfm : (df == sysModules) = false) (hv : atKey xs [ia, ir] = none) (hlen : lfs.length ≤ 10000) (hlk : xs.length ≤ 10000)
    (o1 : @LT.lt Nat _ dx x) (o2 : @LT.lt Nat _ x lt) (o3 : @LT.lt Nat _ lt da) (o4 : @LT.lt Nat _ da lf) (o5 : @LT.lt Nat _ lf df) (hr1 : ∀ p ∈ keys ++ rest, p.1 ≠ lf) (hr2 : ∀ p ∈ keys ++ rest, p.1 ≠ df)
    (ret : ∀ (D : Addr) (ti : Tok) (odf' : Obj) (h' : Heap) (tk' : Nat), FunTab PySem.Challenge.rw_rh0067_01.row.prog w odf' (xs ++ [([ia, ir], D, Value.int lfs.length ti)]) ((D, tupO ia ir ta tr) :: keys) → @LT.lt Nat _ df D → (∀ p ∈ keys ++ rest, p.1 < D) → Fr h₀ L h' m →
      News h₀ L h' ((D, tupO ia ir ta tr) :: (x, instObj 154 dx) :: (dx, dictOf [⟨e1, .str (Str.ofString "texts") k1, .ref lt⟩, ⟨e2, .str (Str.ofString "atom_numbers") k2, .ref da⟩, ⟨e3, .str (Str.ofString "functors") k3, .ref lf⟩, ⟨e4, .str (Str.ofString "functor_numbers") k4, .ref df⟩] 4) :: (lt, ol) :: (da, od) :: (lf, listOf (lfs ++ [Value.ref D]).toArray (nf + 1)) :: (df, odf') :: (keys ++ rest)) →
      Q (.int lfs.length ti) { s with heap := h', toks := tk' }) :
    wpAny (model PySem.Challenge.rw_rh0067_01.row.prog w) (ktrTop 500 1000 none cn cs L a ccd cl outer) (call (.ref 102) [.ref x, .int ia ta, .int ir tr]) Q E s := by
  k_with_none
  k_with "own all" => assumption
  k_with "own getMethod ref" => (k_dflt (refine' ft_method ?zzx ?zzN ?zzhk ?zzhm ?_; (case zzx => assumption); (case zzN => k_asm); (case zzhk => (intro _ hp; repeat (first | exact List.mem_append_left _ hp | apply List.mem_cons_of_mem))); (case zzhm => k_mem)))
  k_with "own call builtin:dict.get" => (k_dflt (refine' ft_get ?zzx ?zzN ?zzhk ?zzhd ?zzlo ?zzhm ?zzhu _ ?zzhl ?_; (case zzx => assumption); (case zzN => k_asm); (case zzhk => (intro _ hp; repeat (first | exact List.mem_append_left _ hp | apply List.mem_cons_of_mem))); (case zzhd => k_mem); (case zzlo => assumption); (case zzhm => k_mem); (case zzhu => exact Nat.le_of_ble_eq_true rfl); (case zzhl => assumption); (try dsimp only [Option.getD, Option.map])))
  k_with "own call builtin:len" => (k_dflt (refine' len_raw ?zzN ?zzhm ?zzhl ?_; (case zzN => k_asm); (case zzhm => k_mem); (case zzhl => assumption); (try dsimp only)))
  k_with "own call builtin:list.append" => ((with_reducible show wpAny _ _ (call (Value.builtin _) [Value.ref _, _]) _ _ _); k_dflt (refine' append_K ?zzk1 ?zzk2 ?zzk3 ?_ ?zzz; (case zzk1 => k_asm); (case zzk2 => k_asm); (case zzk3 => k_upd); (case zzz => (rw [List.size_toArray, sizeLine_eq]; omega)); k_whole); intro _ _ _; (try k_sweep))
  k_with "own setItem ref ref" => (k_dflt (refine' ft_set ?zzF ?zzx ?zzN ?zzhk ?zzU ?zzhm ?zzhu ?zzhl ?zzhz ?_; (case zzF => k_asm); (case zzx => assumption); (case zzN => k_asm); (case zzhk => (intro _ hp; repeat (first | exact List.mem_append_left _ hp | apply List.mem_cons_of_mem))); (case zzU => k_updF); (case zzhm => k_mem); (case zzhu => exact Nat.le_of_ble_eq_true rfl); (case zzhl => assumption); (case zzhz => (rw [sizeLine_eq]; omega))); intro _ _ _ N' _; (try dsimp only at N'); (try k_sweep))
  revert X; k_fill; intro X
  refine wpAny_call ?_
  k_dflt cell_enter
  k_steps
  refine' ret _ _ _ _ _ ?hT ?hl ?hlt ?hF ?hN
  (case hF => assumption)
  (case hN => rw [← List.push_toArray]; assumption)
  (case hT => assumption)
  (case hl => omega)
  (case hlt => exact allLt_mem (And.right (And.right (And.right (And.right (And.right (And.right (by assumption))))))))
end Mine
end
theorem Mine.calm_B12 : True ∧ True := by
  w_top off
  k_with_none
  (try walk1)
  all_goals trivial
section
open PySem PySem.W PySem.Calls PySem.Spec PyProof.Rows
namespace Mine
structure SymSt where
  x : Addr
  dx : Addr
  lt : Addr
  da : Addr
  lf : Addr
  df : Addr
  e1 : Int
  e2 : Int
  e3 : Int
  e4 : Int
  k1 : Tok
  k2 : Tok
  k3 : Tok
  k4 : Tok
  lts : List Value
  nt : Nat
  oda : Obj
  kvs : List (Str × Value)
  lfs : List Value
  nf : Nat
  odf : Obj
  xs : List (List Int × Addr × Value)
  keys : List (Addr × Obj)
def SymSt.led (c : SymSt) : List (Addr × Obj) :=
  (c.x, instObj 154 c.dx) :: (c.dx, dictOf [⟨c.e1, .str (Str.ofString "texts") c.k1, .ref c.lt⟩, ⟨c.e2, .str (Str.ofString "atom_numbers") c.k2, .ref c.da⟩, ⟨c.e3, .str (Str.ofString "functors") c.k3, .ref c.lf⟩, ⟨c.e4, .str (Str.ofString "functor_numbers") c.k4, .ref c.df⟩] 4) ::
  (c.lt, listOf c.lts.toArray c.nt) :: (c.da, c.oda) :: (c.lf, listOf c.lfs.toArray c.nf) :: (c.df, c.odf) :: c.keys
structure SymSt.Ok (prog : Program) (w : World) (c : SymSt) (n : Nat) : Prop where
  o1 : @LT.lt Nat _ c.dx c.x
  o2 : @LT.lt Nat _ c.x c.lt
  o3 : @LT.lt Nat _ c.lt c.da
  o4 : @LT.lt Nat _ c.da c.lf
  o5 : @LT.lt Nat _ c.lf c.df
  kg : ∀ p ∈ c.keys, @LT.lt Nat _ c.df p.1
  kt : ∀ p ∈ c.keys, p.2.cls = .type "tuple"
  hda : c.oda.IsDictOf (strKind prog w) c.kvs
  dam : (c.da == sysModules) = false
  dfm : (c.df == sysModules) = false
  vals : ∀ k v, valueAt c.kvs k = some v → ∃ i t, v = Value.int i t ∧ 0 ≤ i
  hft : FunTab prog w c.odf c.xs c.keys
  fvals : ∀ k a v, atKey c.xs k = some (a, v) → ∃ i t, v = Value.int i t ∧ 0 ≤ i
  l1 : c.lts.length ≤ n
  l2 : c.kvs.length ≤ n
  l3 : c.lfs.length ≤ n
  l4 : c.xs.length ≤ n
structure SymSt.Le (c c' : SymSt) : Prop where
  ax : c'.x = c.x
  adx : c'.dx = c.dx
  alt : c'.lt = c.lt
  ada : c'.da = c.da
  alf : c'.lf = c.lf
  adf : c'.df = c.df
  km : ∀ k v, valueAt c.kvs k = some v → valueAt c'.kvs k = some v
  fm : ∀ k v, atKey c.xs k = some v → atKey c'.xs k = some v
theorem SymSt.Le.refl (c : SymSt) : c.Le c := ⟨rfl, rfl, rfl, rfl, rfl, rfl, fun _ _ h => h, fun _ _ h => h⟩
theorem SymSt.Le.trans {c c' c'' : SymSt} (h : c.Le c') (g : c'.Le c'') : c.Le c'' :=
  ⟨g.ax.trans h.ax, g.adx.trans h.adx, g.alt.trans h.alt, g.ada.trans h.ada, g.alf.trans h.alf, g.adf.trans h.adf, fun k v e => g.km k v (h.km k v e), fun k v e => g.fm k v (h.fm k v e)⟩
theorem SymSt.Ok.up {prog : Program} {w : World} {c : SymSt} {n m : Nat} (h : c.Ok prog w n) (e : n ≤ m) : c.Ok prog w m :=
  { h with l1 := Nat.le_trans h.l1 e, l2 := Nat.le_trans h.l2 e, l3 := Nat.le_trans h.l3 e, l4 := Nat.le_trans h.l4 e }
def SymSt.Off (c : SymSt) (rest : List (Addr × Obj)) : Prop := ∀ p ∈ rest, ∀ q ∈ c.led, q.1 ≠ p.1
theorem SymSt.mem_lt (c : SymSt) : (c.lt, listOf c.lts.toArray c.nt) ∈ c.led := .tail _ (.tail _ (.head _))
theorem SymSt.mem_da (c : SymSt) : (c.da, c.oda) ∈ c.led := .tail _ (.tail _ (.tail _ (.head _)))
theorem SymSt.mem_lf (c : SymSt) : (c.lf, listOf c.lfs.toArray c.nf) ∈ c.led := .tail _ (.tail _ (.tail _ (.tail _ (.head _))))
theorem SymSt.mem_df (c : SymSt) : (c.df, c.odf) ∈ c.led := .tail _ (.tail _ (.tail _ (.tail _ (.tail _ (.head _)))))
theorem SymSt.Off.at {c : SymSt} {rest : List (Addr × Obj)} (h : c.Off rest) {a : Addr} {o : Obj} (hm : (a, o) ∈ rest) : ∀ q ∈ c.led, q.1 ≠ a := h _ hm
theorem SymSt.Off.sub {c : SymSt} {rest rest' : List (Addr × Obj)} (h : c.Off rest) (hs : ∀ p ∈ rest', p ∈ rest) : c.Off rest' := fun p hp => h p (hs p hp)
theorem SymSt.Off.cons {c : SymSt} {rest : List (Addr × Obj)} {a : Addr} {o : Obj} (ha : ∀ q ∈ c.led, q.1 ≠ a) (h : c.Off rest) : c.Off ((a, o) :: rest) := fun p hp => by
  rcases List.mem_cons.mp hp with rfl | hp
  · exact ha
  · exact h p hp
theorem SymSt.Off.nil {c : SymSt} : c.Off [] := fun _ h => nomatch h
theorem off_app {d : Addr} {keys rest : List (Addr × Obj)} (h : ∀ p ∈ keys, @LT.lt Nat _ d p.1) (h' : ∀ p ∈ rest, p.1 ≠ d) : ∀ p ∈ keys ++ rest, p.1 ≠ d := fun p hp =>
  (List.mem_append.mp hp).elim (fun h1 => Nat.ne_of_gt (h p h1)) (h' p)
theorem atom_spec {w : World} {p : Program} {loose : List Str} {mean : ExcName → Option Value} {mg mb : Str → Option Value}
    (cn : Str) (cs : Scope) (L a : Addr) (ccd : Value) (cl : List (Str × Addr)) (outer : List Env) (A₀ : Around) (base h₀ : Heap) (m : Str → Option Value)
    (c : SymSt) (n : Nat) (rest : List (Addr × Obj)) (x : Addr) (t : Str) (tt : Tok) (s : Shared) (Q E : Value → Shared → Prop)
    (B : Below A₀ base outer h₀) (F : Fr h₀ L s.heap m) (X : (hd.heap_39 w.params).In h₀) (T : Top p loose mean mg mb h₀) (hk : cs.kind = .function)
    (N : News h₀ L s.heap (c.led ++ rest)) (hok : c.Ok PySem.Challenge.rw_rh0067_01.row.prog w n) (hn : n ≤ 5000) (hr : c.Off rest) (hx : c.x = x)
    (ret : ∀ (c' : SymSt) (i : Int) (ti : Tok) (h' : Heap) (tk' : Nat), c'.Ok PySem.Challenge.rw_rh0067_01.row.prog w (n + 1) → c.Le c' → c'.Off rest → valueAt c'.kvs t = some (.int i ti) → 0 ≤ i → Fr h₀ L h' m → News h₀ L h' (c'.led ++ rest) → Q (.int i ti) { s with heap := h', toks := tk' }) :
    wpAny (model PySem.Challenge.rw_rh0067_01.row.prog w) (ktrTop 500 1000 none cn cs L a ccd cl outer) (call (.ref 88) [.ref x, .str t tt]) Q E s := by
  subst hx
  cases hv : valueAt c.kvs t with
  | some v =>
    obtain ⟨i, ti, rfl, hi⟩ := hok.vals t v hv
    exact atom_old cn cs L a ccd cl outer A₀ base h₀ m c.x c.dx c.lt c.da c.lf c.df c.e1 c.e2 c.e3 c.e4 c.k1 c.k2 c.k3 c.k4 _ _ _ _ c.kvs (c.keys ++ rest) t tt i ti s Q E B F X T hk N hok.hda hok.dam hv hi
      fun h' tk' F' N' => ret c i ti h' tk' (hok.up (Nat.le_succ n)) (.refl c) hr hv hi F' N'
  | none =>
    have h1 := hok.o1; have h2 := hok.o2; have h3 := hok.o3; have h4 := hok.o4; have h5 := hok.o5
    refine atom_new cn cs L a ccd cl outer A₀ base h₀ m c.x c.dx c.lt c.da c.lf c.df c.e1 c.e2 c.e3 c.e4 c.k1 c.k2 c.k3 c.k4 c.lts c.nt _ _ _ c.kvs (c.keys ++ rest) t tt s Q E B F X T hk N hok.hda hok.dam hv (by have := hok.l1; omega) (by have := hok.l2; omega)
      h1 h2 h3 h4 h5 (off_app (fun p hp => by have := hok.kg p hp; omega) fun p hp e => hr p hp _ c.mem_lt e.symm) (off_app (fun p hp => by have := hok.kg p hp; omega) fun p hp e => hr p hp _ c.mem_da e.symm) fun ti od' h' tk' hd' F' N' => ?_
    refine ret { c with lts := c.lts ++ [Value.str t tt], nt := c.nt + 1, oda := od', kvs := c.kvs ++ [(t, Value.int c.lts.length ti)] } _ ti h' tk' ⟨h1, h2, h3, h4, h5, hok.kg, hok.kt, hd', hok.dam, hok.dfm, ?_, hok.hft, hok.fvals, ?_, ?_, ?_, ?_⟩ ⟨rfl, rfl, rfl, rfl, rfl, rfl, fun k v e => va_mono e, fun _ _ e => e⟩ ?_ (va_self hv _) (Int.natCast_nonneg _) F' N'
    · intro k v e
      rcases va_inv e with e | e
      · exact hok.vals k v e
      · exact ⟨_, _, e, Int.natCast_nonneg _⟩
    · have := hok.l1
      simp only [List.length_append, List.length_singleton]; omega
    · have := hok.l2
      simp only [List.length_append, List.length_singleton]; omega
    · exact Nat.le_succ_of_le hok.l3
    · exact Nat.le_succ_of_le hok.l4
    · intro q hq r hr1
      simp only [SymSt.led, List.mem_cons] at hr1
      have hq' := hr q hq
      simp only [SymSt.led, List.mem_cons] at hq'
      rcases hr1 with rfl | rfl | rfl | rfl | rfl | rfl | hr1
      · exact hq' (c.x, instObj 154 c.dx) (.inl rfl)
      · exact hq' _ (.inr (.inl rfl))
      · exact hq' (c.lt, listOf c.lts.toArray c.nt) (.inr (.inr (.inl rfl)))
      · exact hq' (c.da, c.oda) (.inr (.inr (.inr (.inl rfl))))
      · exact hq' (c.lf, listOf c.lfs.toArray c.nf) (.inr (.inr (.inr (.inr (.inl rfl)))))
      · exact hq' (c.df, c.odf) (.inr (.inr (.inr (.inr (.inr (.inl rfl))))))
      · exact hq' r (.inr (.inr (.inr (.inr (.inr (.inr hr1))))))
theorem functor_spec {w : World} {p : Program} {loose : List Str} {mean : ExcName → Option Value} {mg mb : Str → Option Value}
    (cn : Str) (cs : Scope) (L a : Addr) (ccd : Value) (cl : List (Str × Addr)) (outer : List Env) (A₀ : Around) (base h₀ : Heap) (m : Str → Option Value)
    (c : SymSt) (n : Nat) (rest : List (Addr × Obj)) (x : Addr) (ia ir : Int) (ta tr : Tok) (s : Shared) (Q E : Value → Shared → Prop)
    (B : Below A₀ base outer h₀) (F : Fr h₀ L s.heap m) (X : (hd.heap_39 w.params).In h₀) (T : Top p loose mean mg mb h₀) (hk : cs.kind = .function)
    (N : News h₀ L s.heap (c.led ++ rest)) (hok : c.Ok PySem.Challenge.rw_rh0067_01.row.prog w n) (hn : n ≤ 5000) (hr : c.Off rest) (hx : c.x = x)
    (ret : ∀ (c' : SymSt) (i : Int) (ti : Tok) (ka : Addr) (h' : Heap) (tk' : Nat), c'.Ok PySem.Challenge.rw_rh0067_01.row.prog w (n + 1) → c.Le c' → c'.Off rest → atKey c'.xs [ia, ir] = some (ka, .int i ti) → 0 ≤ i → Fr h₀ L h' m → News h₀ L h' (c'.led ++ rest) → Q (.int i ti) { s with heap := h', toks := tk' }) :
    wpAny (model PySem.Challenge.rw_rh0067_01.row.prog w) (ktrTop 500 1000 none cn cs L a ccd cl outer) (call (.ref 102) [.ref x, .int ia ta, .int ir tr]) Q E s := by
  subst hx
  cases hv : atKey c.xs [ia, ir] with
  | some v =>
    obtain ⟨ka, v⟩ := v
    obtain ⟨i, ti, rfl, hi⟩ := hok.fvals _ _ v hv
    exact functor_old cn cs L a ccd cl outer A₀ base h₀ m c.x c.dx c.lt c.da c.lf c.df c.e1 c.e2 c.e3 c.e4 c.k1 c.k2 c.k3 c.k4 _ _ _ _ c.xs c.keys rest ia ir ta tr ka i ti s Q E B F X T hk N hok.hft hok.dfm hv hi
      fun h' tk' F' N' => ret c i ti ka h' tk' (hok.up (Nat.le_succ n)) (.refl c) hr hv hi F' N'
  | none =>
    have h1 := hok.o1; have h2 := hok.o2; have h3 := hok.o3; have h4 := hok.o4; have h5 := hok.o5
    refine functor_new cn cs L a ccd cl outer A₀ base h₀ m c.x c.dx c.lt c.da c.lf c.df c.e1 c.e2 c.e3 c.e4 c.k1 c.k2 c.k3 c.k4 _ _ c.lfs c.nf _ c.xs c.keys rest ia ir ta tr s Q E B F X T hk N hok.hft hok.dfm hv (by have := hok.l3; omega) (by have := hok.l4; omega)
      h1 h2 h3 h4 h5 (off_app (fun p hp => by have := hok.kg p hp; omega) fun p hp e => hr p hp _ c.mem_lf e.symm) (off_app (fun p hp => by have := hok.kg p hp; omega) fun p hp e => hr p hp _ c.mem_df e.symm) fun D ti odf' h' tk' hT' hD hlt F' N' => ?_
    refine ret { c with lfs := c.lfs ++ [Value.ref D], nf := c.nf + 1, odf := odf', xs := c.xs ++ [([ia, ir], D, Value.int c.lfs.length ti)], keys := (D, tupO ia ir ta tr) :: c.keys } _ ti D h' tk' ⟨h1, h2, h3, h4, h5, ?_, ?_, hok.hda, hok.dam, hok.dfm, hok.vals, hT', ?_, ?_, ?_, ?_, ?_⟩ ⟨rfl, rfl, rfl, rfl, rfl, rfl, fun _ _ e => e, fun k v e => ak_mono e⟩ ?_ (ak_self hv _) (Int.natCast_nonneg _) F' ?_
    · intro q hq
      rcases List.mem_cons.mp hq with rfl | hq
      · exact hD
      · exact hok.kg q hq
    · intro q hq
      rcases List.mem_cons.mp hq with rfl | hq
      · rfl
      · exact hok.kt q hq
    · intro k a v e
      rcases ak_inv e with e | e
      · exact hok.fvals k a v e
      · injection e with e1 e2
        exact ⟨_, _, e2, Int.natCast_nonneg _⟩
    · exact Nat.le_succ_of_le hok.l1
    · exact Nat.le_succ_of_le hok.l2
    · have := hok.l3
      simp only [List.length_append, List.length_singleton]; omega
    · have := hok.l4
      simp only [List.length_append, List.length_singleton]; omega
    · intro q hq r hr1
      have hq' := hr q hq
      simp only [SymSt.led, List.mem_cons] at hr1 hq'
      rcases hr1 with rfl | rfl | rfl | rfl | rfl | rfl | rfl | hr1
      · exact hq' (c.x, instObj 154 c.dx) (.inl rfl)
      · exact hq' _ (.inr (.inl rfl))
      · exact hq' (c.lt, listOf c.lts.toArray c.nt) (.inr (.inr (.inl rfl)))
      · exact hq' (c.da, c.oda) (.inr (.inr (.inr (.inl rfl))))
      · exact hq' (c.lf, listOf c.lfs.toArray c.nf) (.inr (.inr (.inr (.inr (.inl rfl)))))
      · exact hq' (c.df, c.odf) (.inr (.inr (.inr (.inr (.inr (.inl rfl))))))
      · exact Nat.ne_of_gt (hlt q (List.mem_append_right _ hq))
      · exact hq' r (.inr (.inr (.inr (.inr (.inr (.inr hr1))))))
    · intro q hq
      refine N' q ?_
      simp only [SymSt.led, List.cons_append, List.mem_cons, List.mem_append] at hq ⊢
      rcases hq with h | h | h | h | h | h | h | h | h <;> simp [h]
end Mine
end
theorem Mine.calm_B13 : True ∧ True := by
  w_top off
  k_with_none
  (try walk1)
  all_goals trivial
section
open PySem PySem.W PySem.Calls PySem.Spec PyProof.Rows
namespace Mine
theorem func_spec {w : World} {p : Program} {loose : List Str} {mean : ExcName → Option Value} {mg mb : Str → Option Value}
    (cn : Str) (cs : Scope) (L a : Addr) (ccd : Value) (cl : List (Str × Addr)) (outer : List Env) (A₀ : Around) (base h₀ : Heap) (m : Str → Option Value)
    (c : SymSt) (n : Nat) (rest : List (Addr × Obj)) (x : Addr) (t : Str) (r : Int) (tt tr : Tok) (s : Shared) (Q E : Value → Shared → Prop)
    (B : Below A₀ base outer h₀) (F : Fr h₀ L s.heap m) (X : (hd.heap_39 w.params).In h₀) (T : Top p loose mean mg mb h₀) (hk : cs.kind = .function)
    (N : News h₀ L s.heap (c.led ++ rest)) (hok : c.Ok PySem.Challenge.rw_rh0067_01.row.prog w n) (hn : n ≤ 4000) (hr : c.Off rest) (hx : c.x = x)
    (ret : ∀ (c' : SymSt) (i f : Int) (ti tf : Tok) (ka : Addr) (h' : Heap) (tk' : Nat), c'.Ok PySem.Challenge.rw_rh0067_01.row.prog w (n + 2) → c.Le c' → c'.Off rest → valueAt c'.kvs t = some (.int i ti) → atKey c'.xs [i, r] = some (ka, .int f tf) → Fr h₀ L h' m → News h₀ L h' (c'.led ++ rest) → Q (.int f tf) { s with heap := h', toks := tk' }) :
    wpAny (model PySem.Challenge.rw_rh0067_01.row.prog w) (ktrTop 480 900 none cn cs L a ccd cl outer) (call (.ref 109) [.ref x, .str t tt, .int r tr]) Q E s := by
  k_with_none
  k_with "own all" => assumption
  k_with "own call ref" => ((with_reducible show wpAny _ _ (call (Value.ref 88) [Value.ref _, Value.str _ _]) _ _ _); k_dflt (refine' wpAny_wk ?zzw1 ?zzw2 ?zzw3 ?zzw4 ?zzw5 (atom_spec _ _ _ _ _ _ _ _ _ _ _ _ _ _ _ _ _ _ _ _ ?zzB ?zzF ?zzX ?zzT ?zzhk ?zzN ?zzhok ?zzhn ?zzhr ?zzhx ?_); (case zzB => k_asm); (case zzF => k_asm); (case zzN => k_asm); (case zzw3 => exact rfl); (case zzX => k_asm); (case zzT => k_asm); (case zzhk => first | exact rfl | assumption); (case zzw1 => exact rfl); (case zzw2 => exact Nat.le_of_ble_eq_true rfl); (case zzw4 => exact rfl); (case zzw5 => exact Nat.le_of_ble_eq_true rfl); (case zzhok => assumption); (case zzhn => omega); (case zzhr => assumption); (case zzhx => first | exact rfl | exact SymSt.Le.ax (by assumption))); intro _ _ _ _ _ _ _ _ _ _ _ _; (try dsimp only); (try k_sweep))
  k_with "own call ref" => ((with_reducible show wpAny _ _ (call (Value.ref 102) [Value.ref _, Value.int _ _, Value.int _ _]) _ _ _); k_dflt (refine' wpAny_wk ?zzw1 ?zzw2 ?zzw3 ?zzw4 ?zzw5 (functor_spec _ _ _ _ _ _ _ _ _ _ _ _ _ _ _ _ _ _ _ _ _ _ ?zzB ?zzF ?zzX ?zzT ?zzhk ?zzN ?zzhok ?zzhn ?zzhr ?zzhx ?_); (case zzB => k_asm); (case zzF => k_asm); (case zzN => k_asm); (case zzw3 => exact rfl); (case zzX => k_asm); (case zzT => k_asm); (case zzhk => first | exact rfl | assumption); (case zzw1 => exact rfl); (case zzw2 => exact Nat.le_of_ble_eq_true rfl); (case zzw4 => exact rfl); (case zzw5 => exact Nat.le_of_ble_eq_true rfl); (case zzhok => assumption); (case zzhn => omega); (case zzhr => assumption); (case zzhx => first | exact rfl | exact SymSt.Le.ax (by assumption))); intro _ _ _ _ _ _ _ _ _ _ _ _ _; (try dsimp only); (try k_sweep))
  subst hx
  revert X; k_fill; intro X
  refine wpAny_call ?_
  k_dflt cell_enter
  k_steps
  refine' ret _ _ _ _ _ _ _ _ ?hok ?hle ?ho ?hv ?hf ?hF ?hN
  (case hF => assumption)
  (case hN => assumption)
  (case hok => assumption)
  (case ho => assumption)
  (case hf => assumption)
  (case hle => exact SymSt.Le.trans (by assumption) (by assumption))
  (case hv => exact SymSt.Le.km (by assumption) _ _ (by assumption))
end Mine
end
theorem Mine.calm_B14 : True ∧ True := by
  w_top off
  k_with_none
  (try walk1)
  all_goals trivial
section
open PySem PySem.W PySem.Calls PySem.Spec PyProof.Rows
namespace Mine
abbrev tupL (vs : List Value) (n : Nat) : Obj := { cls := .type "tuple", data := .seq vs.toArray n }
theorem fa_spec {w : World} {p : Program} {loose : List Str} {mean : ExcName → Option Value} {mg mb : Str → Option Value}
    (cn : Str) (cs : Scope) (L a : Addr) (ccd : Value) (cl : List (Str × Addr)) (outer : List Env) (A₀ : Around) (base h₀ : Heap) (m : Str → Option Value)
    (news : List (Addr × Obj)) (s : Shared) (Q E : Value → Shared → Prop)
    (B : Below A₀ base outer h₀) (F : Fr h₀ L s.heap m) (X : (hd.heap_39 w.params).In h₀) (T : Top p loose mean mg mb h₀) (hk : cs.kind = .function) (N : News h₀ L s.heap news)
    (ret : ∀ (tl : Addr) (vs : List Value) (n : Nat) (h' : Heap) (tk' : Nat), (∀ v ∈ vs, ∃ t tk, v = Value.str t tk) → vs.length ≤ 100 → (∀ p ∈ news, p.1 < tl) → Fr h₀ L h' m → News h₀ L h' ((tl, tupL vs n) :: news) → Q (.ref tl) { s with heap := h', toks := tk' }) :
    wpAny (model PySem.Challenge.rw_rh0067_01.row.prog w) (ktrTop 480 900 none cn cs L a ccd cl outer) (call (.ref 60) []) Q E s := by
  revert X; k_fill; intro X
  refine wpAny_call ?_
  k_dflt cell_enter
  k_steps
  refine' ret _ _ _ _ _ ?hv ?hl ?hlt ?hF ?hN
  (case hN => assumption)
  (case hF => assumption)
  (case hlt => assumption)
  (case hl => exact Nat.le_of_ble_eq_true rfl)
  (case hv => (repeat (refine List.forall_mem_cons.mpr ⟨⟨_, _, rfl⟩, ?_⟩)); exact List.forall_mem_nil _)
theorem ff_spec {w : World} {p : Program} {loose : List Str} {mean : ExcName → Option Value} {mg mb : Str → Option Value}
    (cn : Str) (cs : Scope) (L a : Addr) (ccd : Value) (cl : List (Str × Addr)) (outer : List Env) (A₀ : Around) (base h₀ : Heap) (m : Str → Option Value)
    (news : List (Addr × Obj)) (s : Shared) (Q E : Value → Shared → Prop)
    (B : Below A₀ base outer h₀) (F : Fr h₀ L s.heap m) (X : (hd.heap_39 w.params).In h₀) (T : Top p loose mean mg mb h₀) (hk : cs.kind = .function) (N : News h₀ L s.heap news)
    (ret : ∀ (tl : Addr) (vs : List Value) (n : Nat) (more : List (Addr × Obj)) (h' : Heap) (tk' : Nat), (∀ v ∈ vs, ∃ r t tk k tk2, v = Value.ref r ∧ (r, tupL [.str t tk, .int k tk2] 0) ∈ more) → vs.length ≤ 100 → (∀ p ∈ news, p.1 < tl) → (∀ p ∈ news, ∀ q ∈ more, p.1 < q.1) → Fr h₀ L h' m → News h₀ L h' ((tl, tupL vs n) :: (more ++ news)) → Q (.ref tl) { s with heap := h', toks := tk' }) :
    wpAny (model PySem.Challenge.rw_rh0067_01.row.prog w) (ktrTop 480 900 none cn cs L a ccd cl outer) (call (.ref 67) []) Q E s := by
  revert X; k_fill; intro X
  refine wpAny_call ?_
  k_dflt cell_enter
  k_steps
  refine' ret _ _ _ [_, _, _, _, _, _, _, _, _, _, _, _, _, _, _, _, _, _, _, _, _, _, _, _, _, _, _, _, _, _, _, _] _ _ ?hv ?hl ?hlt ?hfr ?hF ?hN
  (case hN => assumption)
  (case hF => assumption)
  (case hl => exact Nat.le_of_ble_eq_true rfl)
  (case hv => (repeat (refine List.forall_mem_cons.mpr ⟨⟨_, _, _, _, _, rfl, by k_mem⟩, ?_⟩)); exact List.forall_mem_nil _)
  (case hlt => intro p hp; have hc0 := (by assumption : ∀ p ∈ news, p.1 < _) p hp; have hc1 := Nat.lt_trans hc0 (And.left (by assumption)); have hc2 := Nat.lt_trans hc1 (And.left (by assumption)); have hc3 := Nat.lt_trans hc2 (And.left (by assumption)); have hc4 := Nat.lt_trans hc3 (And.left (by assumption)); have hc5 := Nat.lt_trans hc4 (And.left (by assumption)); have hc6 := Nat.lt_trans hc5 (And.left (by assumption)); have hc7 := Nat.lt_trans hc6 (And.left (by assumption)); have hc8 := Nat.lt_trans hc7 (And.left (by assumption)); have hc9 := Nat.lt_trans hc8 (And.left (by assumption)); have hc10 := Nat.lt_trans hc9 (And.left (by assumption)); have hc11 := Nat.lt_trans hc10 (And.left (by assumption)); have hc12 := Nat.lt_trans hc11 (And.left (by assumption)); have hc13 := Nat.lt_trans hc12 (And.left (by assumption)); have hc14 := Nat.lt_trans hc13 (And.left (by assumption)); have hc15 := Nat.lt_trans hc14 (And.left (by assumption)); have hc16 := Nat.lt_trans hc15 (And.left (by assumption)); have hc17 := Nat.lt_trans hc16 (And.left (by assumption)); have hc18 := Nat.lt_trans hc17 (And.left (by assumption)); have hc19 := Nat.lt_trans hc18 (And.left (by assumption)); have hc20 := Nat.lt_trans hc19 (And.left (by assumption)); have hc21 := Nat.lt_trans hc20 (And.left (by assumption)); have hc22 := Nat.lt_trans hc21 (And.left (by assumption)); have hc23 := Nat.lt_trans hc22 (And.left (by assumption)); have hc24 := Nat.lt_trans hc23 (And.left (by assumption)); have hc25 := Nat.lt_trans hc24 (And.left (by assumption)); have hc26 := Nat.lt_trans hc25 (And.left (by assumption)); have hc27 := Nat.lt_trans hc26 (And.left (by assumption)); have hc28 := Nat.lt_trans hc27 (And.left (by assumption)); have hc29 := Nat.lt_trans hc28 (And.left (by assumption)); have hc30 := Nat.lt_trans hc29 (And.left (by assumption)); have hc31 := Nat.lt_trans hc30 (And.left (by assumption)); have hc32 := Nat.lt_trans hc31 (And.left (by assumption)); exact hc32)
  (case hfr => intro p hp; have hc0 := (by assumption : ∀ p ∈ news, p.1 < _) p hp; have hc1 := Nat.lt_trans hc0 (And.left (by assumption)); have hc2 := Nat.lt_trans hc1 (And.left (by assumption)); have hc3 := Nat.lt_trans hc2 (And.left (by assumption)); have hc4 := Nat.lt_trans hc3 (And.left (by assumption)); have hc5 := Nat.lt_trans hc4 (And.left (by assumption)); have hc6 := Nat.lt_trans hc5 (And.left (by assumption)); have hc7 := Nat.lt_trans hc6 (And.left (by assumption)); have hc8 := Nat.lt_trans hc7 (And.left (by assumption)); have hc9 := Nat.lt_trans hc8 (And.left (by assumption)); have hc10 := Nat.lt_trans hc9 (And.left (by assumption)); have hc11 := Nat.lt_trans hc10 (And.left (by assumption)); have hc12 := Nat.lt_trans hc11 (And.left (by assumption)); have hc13 := Nat.lt_trans hc12 (And.left (by assumption)); have hc14 := Nat.lt_trans hc13 (And.left (by assumption)); have hc15 := Nat.lt_trans hc14 (And.left (by assumption)); have hc16 := Nat.lt_trans hc15 (And.left (by assumption)); have hc17 := Nat.lt_trans hc16 (And.left (by assumption)); have hc18 := Nat.lt_trans hc17 (And.left (by assumption)); have hc19 := Nat.lt_trans hc18 (And.left (by assumption)); have hc20 := Nat.lt_trans hc19 (And.left (by assumption)); have hc21 := Nat.lt_trans hc20 (And.left (by assumption)); have hc22 := Nat.lt_trans hc21 (And.left (by assumption)); have hc23 := Nat.lt_trans hc22 (And.left (by assumption)); have hc24 := Nat.lt_trans hc23 (And.left (by assumption)); have hc25 := Nat.lt_trans hc24 (And.left (by assumption)); have hc26 := Nat.lt_trans hc25 (And.left (by assumption)); have hc27 := Nat.lt_trans hc26 (And.left (by assumption)); have hc28 := Nat.lt_trans hc27 (And.left (by assumption)); have hc29 := Nat.lt_trans hc28 (And.left (by assumption)); have hc30 := Nat.lt_trans hc29 (And.left (by assumption)); have hc31 := Nat.lt_trans hc30 (And.left (by assumption)); have hc32 := Nat.lt_trans hc31 (And.left (by assumption)); (repeat (refine List.forall_mem_cons.mpr ⟨by assumption, ?_⟩)); exact List.forall_mem_nil _)
end Mine
end
theorem Mine.calm_B15 : True ∧ True := by
  w_top off
  k_with_none
  (try walk1)
  all_goals trivial
section
open PySem PySem.W PySem.Calls PySem.Spec PyProof.Rows
namespace Mine
def SymPost (prog : Program) (w : World) (h₀ : Heap) (L : Addr) (m₀ : Str → Option Value) (xn : Str) (c0 : SymSt) (rest : List (Addr × Obj)) (n : Nat) (s₁ : Shared) (Q : Flow → Shared → Prop) (f : Flow) (s₂ : Shared) : Prop :=
  match f with
  | .ret v => Q (.ret v) s₂
  | .brk => Q .next s₂
  | _ => ∃ h' tk' m' c', s₂ = { s₁ with heap := h', toks := tk' } ∧ Fr h₀ L h' m' ∧ News h₀ L h' (c'.led ++ rest) ∧ SymSt.Ok prog w c' n ∧ c0.Le c' ∧ c'.Off rest ∧ (∀ z, z ≠ xn → m' z = m₀ z)
theorem sym_end {prog : Program} {w : World} {h₀ : Heap} {L : Addr} {m₀ m' : Str → Option Value} {xn : Str} {c0 c' : SymSt} {rest : List (Addr × Obj)} {n : Nat} {s₁ : Shared} {Q : Flow → Shared → Prop} {h' : Heap} {tk' : Nat}
    (F : Fr h₀ L h' m') (N : News h₀ L h' (c'.led ++ rest)) (hok : SymSt.Ok prog w c' n) (hle : c0.Le c') (hoff : c'.Off rest) (ho : ∀ z, z ≠ xn → m' z = m₀ z) : SymPost prog w h₀ L m₀ xn c0 rest n s₁ Q .next { s₁ with heap := h', toks := tk' } :=
  ⟨h', tk', m', c', rfl, F, N, hok, hle, hoff, ho⟩
theorem led_lt {prog : Program} {w : World} {c : SymSt} {n : Nat} (_h : SymSt.Ok prog w c n) : (c.lt, listOf c.lts.toArray c.nt) ∈ c.led ∧ (c.da, c.oda) ∈ c.led ∧ (c.lf, listOf c.lfs.toArray c.nf) ∈ c.led ∧ (c.df, c.odf) ∈ c.led :=
  ⟨.tail _ (.tail _ (.head _)), .tail _ (.tail _ (.tail _ (.head _))), .tail _ (.tail _ (.tail _ (.tail _ (.head _)))), .tail _ (.tail _ (.tail _ (.tail _ (.tail _ (.head _)))))⟩
section
variable {prog : Program} {w : World} {A : Around} {E : Value → Shared → Prop} {s : Shared} {env : Env} {h₀ : Heap} {body : List Stmt} {Q : Flow → Shared → Prop}
theorem sym_tup {xn : Str} {l : Addr} {vs : List Value} {nn : Nat} {m₀ : Str → Option Value} {c0 : SymSt} {rest : List (Addr × Obj)} {n0 k : Nat}
    (hh : A.handled = none) (hl : (l, tupL vs nn) ∈ rest) (F : Fr h₀ env.locals s.heap m₀) (N : News h₀ env.locals s.heap (c0.led ++ rest)) (hok : SymSt.Ok prog w c0 n0) (hr : c0.Off rest)
    (turn : ∀ (i : Nat) (v : Value) (c : SymSt) (h : Heap) (tk : Nat) (rest' : List (Addr × Obj)), vs[i]? = some v → SymSt.Ok prog w c (n0 + k * i) → c0.Le c → c.Off rest' → (∀ p ∈ rest, p ∈ rest') →
      Fr h₀ env.locals h (fun y => if y = xn then some v else m₀ y) → News h₀ env.locals h (c.led ++ rest') →
      wpAny (model prog w) A (execs body env) (SymPost prog w h₀ env.locals m₀ xn c0 rest' (n0 + k * (i + 1)) { s with heap := h, toks := tk } Q) E { s with heap := h, toks := tk })
    (done : ∀ (c : SymSt) (u : Str → Option Value) (h : Heap) (tk : Nat), SymSt.Ok prog w c (n0 + k * vs.length) → c0.Le c → c.Off rest → Fr h₀ env.locals h (fun y => if y = xn then u y else m₀ y) → News h₀ env.locals h (c.led ++ rest) → Q .next { s with heap := h, toks := tk }) :
    wpAny (model prog w) A (pyIter (.ref l)) (fun it s₂ => LoopAtV prog w A h₀ env xn body Q E it s₂) E s := by
  have hol := N _ (List.mem_append_right _ hl)
  have hls : s.heap.IsTuple l vs.toArray := ⟨_, hol.1, rfl, nn, rfl⟩
  have hlt : l < s.heap.objs.size := Heap.lt_size hol.1
  refine wpAny_pyIter_tuple hls ?_
  have W := Walks.tuple (prog := prog) (w := w) hh s.heap.objs.size l (Nat.ne_of_lt hlt) vs.toArray
  rw [List.size_toArray] at W
  have hIn := next_is_new F
  have hIlt : ∀ p ∈ c0.led ++ rest, p.1 < s.heap.objs.size := fun p hp => Heap.lt_size (N p hp).1
  refine ⟨s.heap.objs.size, _, _, vs.length, _, _, m₀, c0.led ++ rest, fun i m₁ led => ∃ c, led = c.led ++ rest ∧ SymSt.Ok prog w c (n0 + k * i) ∧ c0.Le c ∧ c.Off rest ∧ (∀ p ∈ led, p.1 ≠ s.heap.objs.size) ∧ (∀ z, z ≠ xn → m₁ z = m₀ z), rfl, W, ?_, ?_, ?_, ⟨⟨_, Heap.get?_push_size _ rfl, rfl, rfl⟩, ?_⟩, F.push _,
    fun p hp => ⟨Heap.get?_push_of_some _ (N p hp).1, (N p hp).2⟩, ⟨c0, rfl, hok, .refl c0, hr, fun p hp => Nat.ne_of_lt (hIlt p hp), fun _ _ => rfl⟩, ?_, ?_⟩
  · intro hm
    rcases List.mem_cons.mp hm with e | hm
    · exact absurd F.ns.lt (e ▸ Nat.lt_irrefl _)
    · exact hol.2.1 (List.mem_singleton.mp hm).symm
  · intro b hb
    rw [List.mem_singleton.mp hb]
    exact hIn
  · intro p hp hm
    exact absurd (hIlt p hp) (by rw [List.mem_singleton.mp hm]; exact Nat.lt_irrefl _)
  · exact ⟨_, Heap.get?_push_of_some _ hol.1, rfl, nn, rfl⟩
  · rintro i v m₁ led s₁ own ⟨h, tk, rfl⟩ hin hP ⟨c, rfl, hok', hle, hoR, hI, hm⟩ _ hown _ hall hst F₁ N₁
    have hv : vs[i]? = some v := by simpa using hP
    have hownOff : ∀ p ∈ own, p.1 = s.heap.objs.size ∨ p.1 = l := fun p hp => by
      rcases List.mem_cons.mp (hown p hp) with e | e
      · exact .inl e
      · exact .inr (List.mem_singleton.mp e)
    have hoff : c.Off (rest ++ own) := fun p hp => by
      rcases List.mem_append.mp hp with hp | hp
      · exact hoR p hp
      · rcases hownOff p hp with e | e
        · rw [e]; exact fun q hq => hI q (List.mem_append_left _ hq)
        · rw [e]; exact hoR _ hl
    have F₂ : Fr h₀ env.locals h (fun y => if y = xn then some v else m₀ y) := by
      refine fr_eq F₁ fun y => ?_
      by_cases hy : y = xn
      · simp [hy]
      · simp only [hy, if_false]; exact hm y hy
    have N₂ : News h₀ env.locals h (c.led ++ (rest ++ own)) := cb_drop N₁ fun p hp => by
      rcases List.mem_append.mp hp with h1 | h1
      · exact List.mem_append_right _ (List.mem_append_left _ h1)
      · rcases List.mem_append.mp h1 with h1 | h1
        · exact List.mem_append_right _ (List.mem_append_right _ h1)
        · exact List.mem_append_left _ h1
    refine wpAny_mono (turn i v c h tk (rest ++ own) hv hok' hle hoff (fun p hp => List.mem_append_left _ hp) F₂ N₂) (fun f s₂ p => ?_) fun _ _ x => x
    have up : (∃ h' tk' m' c', s₂ = { s with heap := h', toks := tk' } ∧ Fr h₀ env.locals h' m' ∧ News h₀ env.locals h' (c'.led ++ (rest ++ own)) ∧ SymSt.Ok prog w c' (n0 + k * (i + 1)) ∧ c0.Le c' ∧ c'.Off (rest ++ own) ∧ (∀ z, z ≠ xn → m' z = m₀ z)) →
        LoopStepU h₀ env.locals [s.heap.objs.size] own (fun m₁ led => ∃ c, led = c.led ++ rest ∧ SymSt.Ok prog w c (n0 + k * (i + 1)) ∧ c0.Le c ∧ c.Off rest ∧ (∀ p ∈ led, p.1 ≠ s.heap.objs.size) ∧ (∀ z, z ≠ xn → m₁ z = m₀ z)) { s with heap := h, toks := tk } .next s₂ := by
      rintro ⟨h', tk', m', c', rfl, F', N', hok'', hle', hoff', hm'⟩
      have hoffI : ∀ p ∈ c'.led ++ rest, p.1 ≠ s.heap.objs.size := by
        intro p hp e
        rcases List.mem_append.mp hp with hp' | hp'
        · obtain ⟨oI, hoI, hcI, _⟩ := hst.1
          exact hoff' _ (List.mem_append_right _ (hall _ (.head _) hIn oI hoI)) p hp' e
        · exact Nat.ne_of_lt (hIlt p (List.mem_append_right _ hp')) e
      refine ⟨rfl, h', tk', m', c'.led ++ rest, rfl, F', ?_, ?_, c', rfl, hok'', hle', fun p hp => hoff' p (List.mem_append_left _ hp), hoffI, hm'⟩
      · refine cb_drop N' fun p hp => ?_
        rcases List.mem_append.mp hp with h1 | h1
        · exact List.mem_append_right _ (List.mem_append_right _ h1)
        · rcases List.mem_append.mp h1 with h1 | h1
          · exact List.mem_append_left _ h1
          · exact List.mem_append_right _ (List.mem_append_left _ h1)
      · intro p hp hm'
        exact hoffI p hp (List.mem_singleton.mp hm')
    cases f with
    | ret v => exact p
    | brk => exact p
    | next => exact up p
    | cont => exact up p
  · rintro h' tk m' led F' N' _ ⟨c, rfl, hok', hle, hoR, _, hm⟩
    refine done c m' h' tk hok' hle hoR ?_ N'
    refine fr_eq F' fun y => ?_
    by_cases hy : y = xn
    · simp [hy]
    · simp only [hy, if_false]; exact hm y hy
theorem sym_tup0 {xn : Str} {l x dx lt da lf df : Addr} {e1 e2 e3 e4 : Int} {k1 k2 k3 k4 : Tok} {oda odf : Obj} {vs : List Value} {nn : Nat} {m₀ : Str → Option Value} {news : List (Addr × Obj)}
    (hh : A.handled = none) (F : Fr h₀ env.locals s.heap m₀)
    (N : News h₀ env.locals s.heap ((l, tupL vs nn) :: (df, odf) :: (lf, listOf #[] 0) :: (da, oda) :: (lt, listOf #[] 0) :: (x, instObj 154 dx) :: (dx, dictOf [⟨e1, .str (Str.ofString "texts") k1, .ref lt⟩, ⟨e2, .str (Str.ofString "atom_numbers") k2, .ref da⟩, ⟨e3, .str (Str.ofString "functors") k3, .ref lf⟩, ⟨e4, .str (Str.ofString "functor_numbers") k4, .ref df⟩] 4) :: news))
    (o1 : @LT.lt Nat _ dx x) (o2 : @LT.lt Nat _ x lt) (o3 : @LT.lt Nat _ lt da) (o4 : @LT.lt Nat _ da lf) (o5 : @LT.lt Nat _ lf df) (o6 : @LT.lt Nat _ df l) (hnews : ∀ p ∈ news, @LT.lt Nat _ p.1 dx)
    (hda : oda.IsDictOf (strKind prog w) []) (hdf : odf.IsDictOf (strKind prog w) []) (dam : (da == sysModules) = false) (dfm : (df == sysModules) = false) (hstr : ∀ v ∈ vs, ∃ t tk, v = Value.str t tk) (hlen : vs.length ≤ 100)
    (turn : ∀ (i n : Nat) (t : Str) (tk : Tok) (c : SymSt) (h : Heap) (tk' : Nat) (rest' : List (Addr × Obj)), n ≤ 100 → SymSt.Ok prog w c n → c.x = x → c.Off rest' → (x, instObj 154 c.dx) ∈ c.led ++ rest' →
      Fr h₀ env.locals h (fun y => if y = xn then some (.str t tk) else m₀ y) → News h₀ env.locals h (c.led ++ rest') →
      wpAny (model prog w) A (execs body env) (fun f s₂ => ∀ c0 : SymSt, c0.Le c → SymPost prog w h₀ env.locals m₀ xn c0 rest' (n + 1) { s with heap := h, toks := tk' } Q f s₂) E { s with heap := h, toks := tk' })
    (done : ∀ (c : SymSt) (u : Str → Option Value) (h : Heap) (tk : Nat), SymSt.Ok prog w c 100 → c.x = x → c.dx = dx → c.Off ((l, tupL vs nn) :: news) → Fr h₀ env.locals h (fun y => if y = xn then u y else m₀ y) → News h₀ env.locals h (c.led ++ ((l, tupL vs nn) :: news)) → Q .next { s with heap := h, toks := tk }) :
    wpAny (model prog w) A (pyIter (.ref l)) (fun it s₂ => LoopAtV prog w A h₀ env xn body Q E it s₂) E s := by
  obtain ⟨es, ep, hE, hd, _, hp, _⟩ := hdf
  have hes : es.toList = [] := by
    generalize es.toList = z at hp
    cases hp
    rfl
  let c0 : SymSt := ⟨x, dx, lt, da, lf, df, e1, e2, e3, e4, k1, k2, k3, k4, [], 0, oda, [], [], 0, odf, [], []⟩
  have hok : SymSt.Ok prog w c0 0 := ⟨o1, o2, o3, o4, o5, (fun _ h => nomatch h), (fun _ h => nomatch h), hda, dam, dfm, (fun k v e => nomatch e), ⟨hE, ⟨es, ep, hd, hes⟩, (fun _ h => nomatch h), .nil⟩, (fun k a v e => nomatch e), Nat.le_refl _, Nat.le_refl _, Nat.le_refl _, Nat.le_refl _⟩
  have hr : c0.Off ((l, tupL vs nn) :: news) := fun p hp q hq => by
    simp only [c0, SymSt.led, List.mem_cons, List.not_mem_nil, or_false] at hq
    rcases List.mem_cons.mp hp with rfl | hp
    · rcases hq with rfl | rfl | rfl | rfl | rfl | rfl
      all_goals first | (show @Ne Nat x l; omega) | (show @Ne Nat dx l; omega) | (show @Ne Nat lt l; omega) | (show @Ne Nat da l; omega) | (show @Ne Nat lf l; omega) | (show @Ne Nat df l; omega)
    · have := hnews p hp
      rcases hq with rfl | rfl | rfl | rfl | rfl | rfl
      · show @Ne Nat x p.1; omega
      · show @Ne Nat dx p.1; omega
      · show @Ne Nat lt p.1; omega
      · show @Ne Nat da p.1; omega
      · show @Ne Nat lf p.1; omega
      · show @Ne Nat df p.1; omega
  refine sym_tup (c0 := c0) (rest := (l, tupL vs nn) :: news) (n0 := 0) (k := 1) hh (.head _) F (cb_drop N fun p hp => ?_) hok hr (fun i v c h tk rest' hv hok' hle hoff hsub F' N' => ?_) fun c u h tk hok' hle hoR F' N' => ?_
  · rcases List.mem_append.mp hp with h | h
    · simp only [c0, SymSt.led, List.mem_cons, List.not_mem_nil, or_false] at h
      simp only [List.mem_cons]
      rcases h with h | h | h | h | h | h <;> simp [h]
    · simp only [List.mem_cons] at h ⊢
      rcases h with h | h <;> simp [h]
  · have hi : i < vs.length := (List.getElem?_eq_some_iff.mp hv).1
    obtain ⟨t, tk0, rfl⟩ := hstr v (List.mem_of_getElem? hv)
    have hx0 : c.x = x := hle.ax
    exact wpAny_mono (turn i (0 + 1 * i) t tk0 c h tk rest' (by omega) hok' hle.ax hoff (by rw [← hx0]; exact .head _) F' N') (fun f s₂ p => p c0 hle) fun _ _ e => e
  · exact done c u h tk (hok'.up (by omega)) hle.ax hle.adx hoR F' N'
theorem sym_tup2 {xn : Str} {l x : Addr} {vs : List Value} {nn : Nat} {m₀ : Str → Option Value} {c0 : SymSt} {rest more : List (Addr × Obj)}
    (hh : A.handled = none) (F : Fr h₀ env.locals s.heap m₀) (N : News h₀ env.locals s.heap ((l, tupL vs nn) :: (more ++ (c0.led ++ rest)))) (hok : SymSt.Ok prog w c0 100) (hx0 : c0.x = x) (hr : c0.Off rest)
    (hlt : ∀ p ∈ c0.led ++ rest, p.1 < l) (hmore : ∀ p ∈ c0.led ++ rest, ∀ q ∈ more, p.1 < q.1) (hrow : ∀ v ∈ vs, ∃ r t tk k tk2, v = Value.ref r ∧ (r, tupL [.str t tk, .int k tk2] 0) ∈ more) (hlen : vs.length ≤ 100)
    (turn : ∀ (n : Nat) (r : Addr) (t : Str) (tk : Tok) (k : Int) (tk2 : Tok) (c : SymSt) (h : Heap) (tk' : Nat) (rest' : List (Addr × Obj)), n ≤ 300 → SymSt.Ok prog w c n → c.x = x → c.Off rest' → (x, instObj 154 c.dx) ∈ c.led ++ rest' → (r, tupL [.str t tk, .int k tk2] 0) ∈ c.led ++ rest' →
      Fr h₀ env.locals h (fun y => if y = xn then some (.ref r) else m₀ y) → News h₀ env.locals h (c.led ++ rest') →
      wpAny (model prog w) A (execs body env) (fun f s₂ => ∀ c0 : SymSt, c0.Le c → SymPost prog w h₀ env.locals m₀ xn c0 rest' (n + 2) { s with heap := h, toks := tk' } Q f s₂) E { s with heap := h, toks := tk' })
    (done : ∀ (c : SymSt) (u : Str → Option Value) (h : Heap) (tk : Nat), SymSt.Ok prog w c 1000 → c.x = x → c.dx = c0.dx → c.Off rest → Fr h₀ env.locals h (fun y => if y = xn then u y else m₀ y) → News h₀ env.locals h (c.led ++ rest) → Q .next { s with heap := h, toks := tk }) :
    wpAny (model prog w) A (pyIter (.ref l)) (fun it s₂ => LoopAtV prog w A h₀ env xn body Q E it s₂) E s := by
  have hr' : c0.Off ((l, tupL vs nn) :: (more ++ rest)) := fun p hp q hq => by
    rcases List.mem_cons.mp hp with rfl | hp
    · exact Nat.ne_of_lt (hlt q (List.mem_append_left _ hq))
    · rcases List.mem_append.mp hp with hp | hp
      · exact Nat.ne_of_lt (hmore q (List.mem_append_left _ hq) p hp)
      · exact hr p hp q hq
  refine sym_tup (c0 := c0) (rest := (l, tupL vs nn) :: (more ++ rest)) (n0 := 100) (k := 2) hh (.head _) F (cb_drop N fun p hp => ?_) hok hr' (fun i v c h tk rest' hv hok' hle hoff hsub F' N' => ?_) fun c u h tk hok' hle hoR F' N' => ?_
  · simp only [List.mem_append, List.mem_cons] at hp ⊢
    rcases hp with h | h | h | h <;> simp [h]
  · have hi : i < vs.length := (List.getElem?_eq_some_iff.mp hv).1
    obtain ⟨r, t, tk0, k, tk2, rfl, hm⟩ := hrow v (List.mem_of_getElem? hv)
    exact wpAny_mono (turn (100 + 2 * i) r t tk0 k tk2 c h tk rest' (by omega) hok' (hle.ax.trans hx0) hoff (by rw [← hle.ax.trans hx0]; exact .head _) (List.mem_append_right _ (hsub _ (.tail _ (List.mem_append_left _ hm)))) F' N') (fun f s₂ p => p c0 hle) fun _ _ e => e
  · refine done c u h tk (hok'.up (by omega)) (hle.ax.trans hx0) hle.adx (hoR.sub fun p hp => .tail _ (List.mem_append_right _ hp)) F' (cb_drop N' fun p hp => ?_)
    simp only [List.mem_append, List.mem_cons] at hp ⊢
    rcases hp with h | h <;> simp [h]
end
end Mine
end
theorem Mine.calm_B16 : True ∧ True := by
  w_top off
  k_with_none
  (try walk1)
  all_goals trivial
section
open PySem PySem.W PySem.Calls PySem.Spec PyProof.Rows
namespace Mine
theorem symbols_spec {w : World} {p : Program} {loose : List Str} {mean : ExcName → Option Value} {mg mb : Str → Option Value}
    (cn : Str) (cs : Scope) (L a : Addr) (ccd : Value) (cl : List (Str × Addr)) (outer : List Env) (A₀ : Around) (base h₀ : Heap) (m : Str → Option Value)
    (news : List (Addr × Obj)) (s : Shared) (Q E : Value → Shared → Prop)
    (B : Below A₀ base outer h₀) (F : Fr h₀ L s.heap m) (X : (hd.heap_39 w.params).In h₀) (T : Top p loose mean mg mb h₀) (hk : cs.kind = .function) (N : News h₀ L s.heap news)
    (ret : ∀ (c : SymSt) (x : Addr) (h' : Heap) (tk' : Nat), c.Ok PySem.Challenge.rw_rh0067_01.row.prog w 1000 → c.x = x → c.Off news → Fr h₀ L h' m → News h₀ L h' (c.led ++ news) → Q (.ref x) { s with heap := h', toks := tk' }) :
    wpAny (model PySem.Challenge.rw_rh0067_01.row.prog w) (ktrTop 420 600 none cn cs L a ccd cl outer) (call (.ref 154) []) Q E s := by
  k_with_none
  k_with "own all" => assumption
  k_with "own call ref" => ((with_reducible show wpAny _ _ (call (Value.ref 60) _) _ _ _); k_dflt (refine' wpAny_wk ?zzw1 ?zzw2 ?zzw3 ?zzw4 ?zzw5 (fa_spec _ _ _ _ _ _ _ _ _ _ _ _ _ _ _ ?zzB ?zzF ?zzX ?zzT ?zzhk ?zzN  ?_); (case zzB => k_asm); (case zzF => k_asm); (case zzN => k_asm); (case zzw3 => exact rfl); (case zzX => k_asm); (case zzT => k_asm); (case zzhk => first | exact rfl | assumption); (case zzw1 => exact rfl); (case zzw2 => first | exact Nat.le_of_ble_eq_true rfl | (simp only [depth_under_make, depth_deeper, depth_in1]; decide)); (case zzw4 => exact rfl); (case zzw5 => first | exact Nat.le_of_ble_eq_true rfl | (simp only [units_under_make, units_deeper, units_in1]; decide))); intro _ _ _ _ _ _ _ l1 _ _; (try k_lt l1); (try dsimp only); (try k_sweep))
  k_with "own call ref" => ((with_reducible show wpAny _ _ (call (Value.ref 67) _) _ _ _); k_dflt (refine' wpAny_wk ?zzw1 ?zzw2 ?zzw3 ?zzw4 ?zzw5 (ff_spec _ _ _ _ _ _ _ _ _ _ _ _ _ _ _ ?zzB ?zzF ?zzX ?zzT ?zzhk ?zzN  ?_); (case zzB => k_asm); (case zzF => k_asm); (case zzN => k_asm); (case zzw3 => exact rfl); (case zzX => k_asm); (case zzT => k_asm); (case zzhk => first | exact rfl | assumption); (case zzw1 => exact rfl); (case zzw2 => first | exact Nat.le_of_ble_eq_true rfl | (simp only [depth_under_make, depth_deeper, depth_in1]; decide)); (case zzw4 => exact rfl); (case zzw5 => first | exact Nat.le_of_ble_eq_true rfl | (simp only [units_under_make, units_deeper, units_in1]; decide))); intro _ _ _ _ _ _ _ _ _ _ _ _; (try dsimp only); (try k_sweep))
  k_with "own call ref" => ((with_reducible show wpAny _ _ (call (Value.ref 88) [Value.ref _, Value.str _ _]) _ _ _); k_dflt (refine' wpAny_wk ?zzw1 ?zzw2 ?zzw3 ?zzw4 ?zzw5 (atom_spec _ _ _ _ _ _ _ _ _ _ _ _ _ _ _ _ _ _ _ _ ?zzB ?zzF ?zzX ?zzT ?zzhk ?zzN ?zzhok ?zzhn ?zzhr ?zzhx ?_); (case zzB => k_asm); (case zzF => k_asm); (case zzN => k_asm); (case zzw3 => exact rfl); (case zzX => k_asm); (case zzT => k_asm); (case zzhk => first | exact rfl | assumption); (case zzw1 => exact rfl); (case zzw2 => first | exact Nat.le_of_ble_eq_true rfl | (simp only [depth_under_make, depth_deeper, depth_in1]; decide)); (case zzw4 => exact rfl); (case zzw5 => first | exact Nat.le_of_ble_eq_true rfl | (simp only [units_under_make, units_deeper, units_in1]; decide)); (case zzhok => assumption); (case zzhn => omega); (case zzhr => assumption); (case zzhx => first | exact rfl | assumption | exact SymSt.Le.ax (by assumption))); intro _ _ _ _ _ _ _ _ _ _ _ _; (try dsimp only); (try k_sweep))
  k_with "own call ref" => ((with_reducible show wpAny _ _ (call (Value.ref 109) [Value.ref _, Value.str _ _, Value.int _ _]) _ _ _); k_dflt (refine' wpAny_wk ?zzw1 ?zzw2 ?zzw3 ?zzw4 ?zzw5 (func_spec _ _ _ _ _ _ _ _ _ _ _ _ _ _ _ _ _ _ _ _ _ _ ?zzB ?zzF ?zzX ?zzT ?zzhk ?zzN ?zzhok ?zzhn ?zzhr ?zzhx ?_); (case zzB => k_asm); (case zzF => k_asm); (case zzN => k_asm); (case zzw3 => exact rfl); (case zzX => k_asm); (case zzT => k_asm); (case zzhk => first | exact rfl | assumption); (case zzw1 => exact rfl); (case zzw2 => first | exact Nat.le_of_ble_eq_true rfl | (simp only [depth_under_make, depth_deeper, depth_in1]; decide)); (case zzw4 => exact rfl); (case zzw5 => first | exact Nat.le_of_ble_eq_true rfl | (simp only [units_under_make, units_deeper, units_in1]; decide)); (case zzhok => assumption); (case zzhn => omega); (case zzhr => assumption); (case zzhx => first | exact rfl | assumption | exact SymSt.Le.ax (by assumption))); intro _ _ _ _ _ _ _ _ _ _ _ _ _ _ _; (try dsimp only); (try k_sweep))
  k_with "own pyIter ref" => ((with_reducible show wpAny _ _ (pyIter (Value.ref _)) (fun it s₂ => LoopAtV _ _ _ _ _ _ _ _ _ it s₂) _ _); k_dflt (first | (refine' sym_tup0 ?zzhh ?zzF ?zzN ?zzo1 ?zzo2 ?zzo3 ?zzo4 ?zzo5 ?zzo6 ?zzhnews ?zzhda ?zzhdf ?zzdam ?zzdfm ?zzhstr ?zzhlen ?_ ?_; (case zzF => k_asm); (case zzN => k_asm); (case zzhh => exact rfl); (case zzo1 => omega); (case zzo2 => omega); (case zzo3 => omega); (case zzo4 => omega); (case zzo5 => omega); (case zzo6 => omega); (case zzhnews => assumption); (case zzhda => assumption); (case zzhdf => assumption); (case zzdam => assumption); (case zzdfm => assumption); (case zzhstr => assumption); (case zzhlen => assumption)) | (refine' sym_tup2 ?zzhh ?zzF ?zzN ?zzhok ?zzhx0 ?zzhr ?zzhlt ?zzhmore ?zzhrow ?zzhlen ?_ ?_; (case zzF => k_asm); (case zzN => k_asm); (case zzhh => exact rfl); (case zzhok => assumption); (case zzhx0 => assumption); (case zzhr => assumption); (case zzhlt => assumption); (case zzhmore => assumption); (case zzhrow => assumption); (case zzhlen => assumption))))
  revert X; k_fill; intro X
  refine' call_cls ?k1 ?k2 ?k3 ?k4 ?k5 ?k6 ?_
  (case k1 => k_asm)
  (case k2 => k_asm)
  (case k3 => k_asm)
  (case k4 => k_is)
  (case k5 => k_is)
  (case k6 => k_is)
  intro x' d' h' F' N' l1 l2
  (try k_lt l1)
  (try k_lt2 l2)
  (try k_sweep)
  k_dflt cell_enter
  k_steps
  · refine' sym_end ?F ?N ?hok (SymSt.Le.trans (by assumption) ?hle) ?hoff ?ho
    (case F => assumption)
    (case N => assumption)
    (case hok => assumption)
    (case hle => assumption)
    (case hoff => assumption)
    (case ho => intro z hz; simp only [hz, if_false])
  · refine' sym_end ?F ?N ?hok (SymSt.Le.trans (by assumption) ?hle) ?hoff ?ho
    (case F => assumption)
    (case N => assumption)
    (case hok => assumption)
    (case hle => assumption)
    (case hoff => assumption)
    (case ho => intro z hz; simp only [hz, if_false])
  · refine' ret _ _ _ _ ?hok ?hx ?hl ?F (cb_drop ?N ?hs)
    (case F => assumption)
    (case N => assumption)
    (case hok => assumption)
    (case hx => assumption)
    (case hs => intro p hp; exact (List.mem_append.mp hp).elim (fun h => List.mem_append_left _ h) fun h => List.mem_append_right _ (List.mem_cons_of_mem _ h))
    (case hl => exact SymSt.Off.sub (by assumption) fun p hp => List.mem_cons_of_mem _ hp)
end Mine
end
theorem Mine.calm_B17 : True ∧ True := by
  w_top off
  k_with_none
  (try walk1)
  all_goals trivial
section
open PySem PySem.W PySem.Calls PySem.Spec PyProof.Rows
namespace Mine
inductive Pre : List (Addr × Obj) → List (Addr × Obj) → List (Addr × Obj) → Prop
  | nil {t : List (Addr × Obj)} : Pre t t []
  | cons {e : Addr × Obj} {l t p : List (Addr × Obj)} : Pre l t p → Pre (e :: l) t (e :: p)
theorem Pre.c0 {t : List (Addr × Obj)} : Pre (t) t [] := Pre.nil
theorem Pre.c1 {t : List (Addr × Obj)} {e1 : Addr × Obj} : Pre (e1 :: t) t [e1] := Pre.cons Pre.nil
theorem Pre.c2 {t : List (Addr × Obj)} {e1 e2 : Addr × Obj} : Pre (e1 :: e2 :: t) t [e1, e2] := Pre.cons (Pre.cons Pre.nil)
theorem Pre.c3 {t : List (Addr × Obj)} {e1 e2 e3 : Addr × Obj} : Pre (e1 :: e2 :: e3 :: t) t [e1, e2, e3] := Pre.cons (Pre.cons (Pre.cons Pre.nil))
theorem Pre.c4 {t : List (Addr × Obj)} {e1 e2 e3 e4 : Addr × Obj} : Pre (e1 :: e2 :: e3 :: e4 :: t) t [e1, e2, e3, e4] := Pre.cons (Pre.cons (Pre.cons (Pre.cons Pre.nil)))
theorem Pre.c5 {t : List (Addr × Obj)} {e1 e2 e3 e4 e5 : Addr × Obj} : Pre (e1 :: e2 :: e3 :: e4 :: e5 :: t) t [e1, e2, e3, e4, e5] := Pre.cons (Pre.cons (Pre.cons (Pre.cons (Pre.cons Pre.nil))))
theorem Pre.c6 {t : List (Addr × Obj)} {e1 e2 e3 e4 e5 e6 : Addr × Obj} : Pre (e1 :: e2 :: e3 :: e4 :: e5 :: e6 :: t) t [e1, e2, e3, e4, e5, e6] := Pre.cons (Pre.cons (Pre.cons (Pre.cons (Pre.cons (Pre.cons Pre.nil)))))
theorem Pre.c7 {t : List (Addr × Obj)} {e1 e2 e3 e4 e5 e6 e7 : Addr × Obj} : Pre (e1 :: e2 :: e3 :: e4 :: e5 :: e6 :: e7 :: t) t [e1, e2, e3, e4, e5, e6, e7] := Pre.cons (Pre.cons (Pre.cons (Pre.cons (Pre.cons (Pre.cons (Pre.cons Pre.nil))))))
theorem Pre.c8 {t : List (Addr × Obj)} {e1 e2 e3 e4 e5 e6 e7 e8 : Addr × Obj} : Pre (e1 :: e2 :: e3 :: e4 :: e5 :: e6 :: e7 :: e8 :: t) t [e1, e2, e3, e4, e5, e6, e7, e8] := Pre.cons (Pre.cons (Pre.cons (Pre.cons (Pre.cons (Pre.cons (Pre.cons (Pre.cons Pre.nil)))))))
theorem Pre.c9 {t : List (Addr × Obj)} {e1 e2 e3 e4 e5 e6 e7 e8 e9 : Addr × Obj} : Pre (e1 :: e2 :: e3 :: e4 :: e5 :: e6 :: e7 :: e8 :: e9 :: t) t [e1, e2, e3, e4, e5, e6, e7, e8, e9] := Pre.cons (Pre.cons (Pre.cons (Pre.cons (Pre.cons (Pre.cons (Pre.cons (Pre.cons (Pre.cons Pre.nil))))))))
theorem Pre.c10 {t : List (Addr × Obj)} {e1 e2 e3 e4 e5 e6 e7 e8 e9 e10 : Addr × Obj} : Pre (e1 :: e2 :: e3 :: e4 :: e5 :: e6 :: e7 :: e8 :: e9 :: e10 :: t) t [e1, e2, e3, e4, e5, e6, e7, e8, e9, e10] := Pre.cons (Pre.cons (Pre.cons (Pre.cons (Pre.cons (Pre.cons (Pre.cons (Pre.cons (Pre.cons (Pre.cons Pre.nil)))))))))
theorem Pre.c11 {t : List (Addr × Obj)} {e1 e2 e3 e4 e5 e6 e7 e8 e9 e10 e11 : Addr × Obj} : Pre (e1 :: e2 :: e3 :: e4 :: e5 :: e6 :: e7 :: e8 :: e9 :: e10 :: e11 :: t) t [e1, e2, e3, e4, e5, e6, e7, e8, e9, e10, e11] := Pre.cons (Pre.cons (Pre.cons (Pre.cons (Pre.cons (Pre.cons (Pre.cons (Pre.cons (Pre.cons (Pre.cons (Pre.cons Pre.nil))))))))))
theorem Pre.c12 {t : List (Addr × Obj)} {e1 e2 e3 e4 e5 e6 e7 e8 e9 e10 e11 e12 : Addr × Obj} : Pre (e1 :: e2 :: e3 :: e4 :: e5 :: e6 :: e7 :: e8 :: e9 :: e10 :: e11 :: e12 :: t) t [e1, e2, e3, e4, e5, e6, e7, e8, e9, e10, e11, e12] := Pre.cons (Pre.cons (Pre.cons (Pre.cons (Pre.cons (Pre.cons (Pre.cons (Pre.cons (Pre.cons (Pre.cons (Pre.cons (Pre.cons Pre.nil)))))))))))
theorem Pre.c13 {t : List (Addr × Obj)} {e1 e2 e3 e4 e5 e6 e7 e8 e9 e10 e11 e12 e13 : Addr × Obj} : Pre (e1 :: e2 :: e3 :: e4 :: e5 :: e6 :: e7 :: e8 :: e9 :: e10 :: e11 :: e12 :: e13 :: t) t [e1, e2, e3, e4, e5, e6, e7, e8, e9, e10, e11, e12, e13] := Pre.cons (Pre.cons (Pre.cons (Pre.cons (Pre.cons (Pre.cons (Pre.cons (Pre.cons (Pre.cons (Pre.cons (Pre.cons (Pre.cons (Pre.cons Pre.nil))))))))))))
theorem Pre.c14 {t : List (Addr × Obj)} {e1 e2 e3 e4 e5 e6 e7 e8 e9 e10 e11 e12 e13 e14 : Addr × Obj} : Pre (e1 :: e2 :: e3 :: e4 :: e5 :: e6 :: e7 :: e8 :: e9 :: e10 :: e11 :: e12 :: e13 :: e14 :: t) t [e1, e2, e3, e4, e5, e6, e7, e8, e9, e10, e11, e12, e13, e14] := Pre.cons (Pre.cons (Pre.cons (Pre.cons (Pre.cons (Pre.cons (Pre.cons (Pre.cons (Pre.cons (Pre.cons (Pre.cons (Pre.cons (Pre.cons (Pre.cons Pre.nil)))))))))))))
theorem Pre.c15 {t : List (Addr × Obj)} {e1 e2 e3 e4 e5 e6 e7 e8 e9 e10 e11 e12 e13 e14 e15 : Addr × Obj} : Pre (e1 :: e2 :: e3 :: e4 :: e5 :: e6 :: e7 :: e8 :: e9 :: e10 :: e11 :: e12 :: e13 :: e14 :: e15 :: t) t [e1, e2, e3, e4, e5, e6, e7, e8, e9, e10, e11, e12, e13, e14, e15] := Pre.cons (Pre.cons (Pre.cons (Pre.cons (Pre.cons (Pre.cons (Pre.cons (Pre.cons (Pre.cons (Pre.cons (Pre.cons (Pre.cons (Pre.cons (Pre.cons (Pre.cons Pre.nil))))))))))))))
theorem Pre.c16 {t : List (Addr × Obj)} {e1 e2 e3 e4 e5 e6 e7 e8 e9 e10 e11 e12 e13 e14 e15 e16 : Addr × Obj} : Pre (e1 :: e2 :: e3 :: e4 :: e5 :: e6 :: e7 :: e8 :: e9 :: e10 :: e11 :: e12 :: e13 :: e14 :: e15 :: e16 :: t) t [e1, e2, e3, e4, e5, e6, e7, e8, e9, e10, e11, e12, e13, e14, e15, e16] := Pre.cons (Pre.cons (Pre.cons (Pre.cons (Pre.cons (Pre.cons (Pre.cons (Pre.cons (Pre.cons (Pre.cons (Pre.cons (Pre.cons (Pre.cons (Pre.cons (Pre.cons (Pre.cons Pre.nil)))))))))))))))
theorem Pre.c17 {t : List (Addr × Obj)} {e1 e2 e3 e4 e5 e6 e7 e8 e9 e10 e11 e12 e13 e14 e15 e16 e17 : Addr × Obj} : Pre (e1 :: e2 :: e3 :: e4 :: e5 :: e6 :: e7 :: e8 :: e9 :: e10 :: e11 :: e12 :: e13 :: e14 :: e15 :: e16 :: e17 :: t) t [e1, e2, e3, e4, e5, e6, e7, e8, e9, e10, e11, e12, e13, e14, e15, e16, e17] := Pre.cons (Pre.cons (Pre.cons (Pre.cons (Pre.cons (Pre.cons (Pre.cons (Pre.cons (Pre.cons (Pre.cons (Pre.cons (Pre.cons (Pre.cons (Pre.cons (Pre.cons (Pre.cons (Pre.cons Pre.nil))))))))))))))))
theorem Pre.c18 {t : List (Addr × Obj)} {e1 e2 e3 e4 e5 e6 e7 e8 e9 e10 e11 e12 e13 e14 e15 e16 e17 e18 : Addr × Obj} : Pre (e1 :: e2 :: e3 :: e4 :: e5 :: e6 :: e7 :: e8 :: e9 :: e10 :: e11 :: e12 :: e13 :: e14 :: e15 :: e16 :: e17 :: e18 :: t) t [e1, e2, e3, e4, e5, e6, e7, e8, e9, e10, e11, e12, e13, e14, e15, e16, e17, e18] := Pre.cons (Pre.cons (Pre.cons (Pre.cons (Pre.cons (Pre.cons (Pre.cons (Pre.cons (Pre.cons (Pre.cons (Pre.cons (Pre.cons (Pre.cons (Pre.cons (Pre.cons (Pre.cons (Pre.cons (Pre.cons Pre.nil)))))))))))))))))
theorem Pre.c19 {t : List (Addr × Obj)} {e1 e2 e3 e4 e5 e6 e7 e8 e9 e10 e11 e12 e13 e14 e15 e16 e17 e18 e19 : Addr × Obj} : Pre (e1 :: e2 :: e3 :: e4 :: e5 :: e6 :: e7 :: e8 :: e9 :: e10 :: e11 :: e12 :: e13 :: e14 :: e15 :: e16 :: e17 :: e18 :: e19 :: t) t [e1, e2, e3, e4, e5, e6, e7, e8, e9, e10, e11, e12, e13, e14, e15, e16, e17, e18, e19] := Pre.cons (Pre.cons (Pre.cons (Pre.cons (Pre.cons (Pre.cons (Pre.cons (Pre.cons (Pre.cons (Pre.cons (Pre.cons (Pre.cons (Pre.cons (Pre.cons (Pre.cons (Pre.cons (Pre.cons (Pre.cons (Pre.cons Pre.nil))))))))))))))))))
theorem Pre.c20 {t : List (Addr × Obj)} {e1 e2 e3 e4 e5 e6 e7 e8 e9 e10 e11 e12 e13 e14 e15 e16 e17 e18 e19 e20 : Addr × Obj} : Pre (e1 :: e2 :: e3 :: e4 :: e5 :: e6 :: e7 :: e8 :: e9 :: e10 :: e11 :: e12 :: e13 :: e14 :: e15 :: e16 :: e17 :: e18 :: e19 :: e20 :: t) t [e1, e2, e3, e4, e5, e6, e7, e8, e9, e10, e11, e12, e13, e14, e15, e16, e17, e18, e19, e20] := Pre.cons (Pre.cons (Pre.cons (Pre.cons (Pre.cons (Pre.cons (Pre.cons (Pre.cons (Pre.cons (Pre.cons (Pre.cons (Pre.cons (Pre.cons (Pre.cons (Pre.cons (Pre.cons (Pre.cons (Pre.cons (Pre.cons (Pre.cons Pre.nil)))))))))))))))))))
theorem Pre.eq {l t p : List (Addr × Obj)} (h : Pre l t p) : l = p ++ t := by
  induction h with
  | nil => rfl
  | cons _ ih => rw [ih]; rfl
def Pull (e : Addr × Obj) (led r : List (Addr × Obj)) : Prop := ∀ q, q ∈ led ↔ q = e ∨ q ∈ r
theorem Pull.cons {e f : Addr × Obj} {led r : List (Addr × Obj)} (h : Pull e led r) : Pull e (f :: led) (f :: r) := fun q => by
  simp only [List.mem_cons, h q]
  exact ⟨fun x => x.elim (fun y => .inr (.inl y)) fun y => y.elim .inl fun z => .inr (.inr z), fun x => x.elim (fun y => .inr (.inl y)) fun y => y.elim .inl fun z => .inr (.inr z)⟩
theorem Pull.p0 {e : Addr × Obj} {t : List (Addr × Obj)} : Pull e (e :: t) t := fun _ => List.mem_cons
theorem Pull.p1 {e1 e : Addr × Obj} {t : List (Addr × Obj)} : Pull e (e1 :: e :: t) (e1 :: t) := Pull.cons Pull.p0
theorem Pull.p2 {e1 e2 e : Addr × Obj} {t : List (Addr × Obj)} : Pull e (e1 :: e2 :: e :: t) (e1 :: e2 :: t) := Pull.cons (Pull.cons Pull.p0)
theorem Pull.p3 {e1 e2 e3 e : Addr × Obj} {t : List (Addr × Obj)} : Pull e (e1 :: e2 :: e3 :: e :: t) (e1 :: e2 :: e3 :: t) := Pull.cons (Pull.cons (Pull.cons Pull.p0))
theorem Pull.p4 {e1 e2 e3 e4 e : Addr × Obj} {t : List (Addr × Obj)} : Pull e (e1 :: e2 :: e3 :: e4 :: e :: t) (e1 :: e2 :: e3 :: e4 :: t) := Pull.cons (Pull.cons (Pull.cons (Pull.cons Pull.p0)))
theorem Pull.p5 {e1 e2 e3 e4 e5 e : Addr × Obj} {t : List (Addr × Obj)} : Pull e (e1 :: e2 :: e3 :: e4 :: e5 :: e :: t) (e1 :: e2 :: e3 :: e4 :: e5 :: t) := Pull.cons (Pull.cons (Pull.cons (Pull.cons (Pull.cons Pull.p0))))
theorem Pull.p6 {e1 e2 e3 e4 e5 e6 e : Addr × Obj} {t : List (Addr × Obj)} : Pull e (e1 :: e2 :: e3 :: e4 :: e5 :: e6 :: e :: t) (e1 :: e2 :: e3 :: e4 :: e5 :: e6 :: t) := Pull.cons (Pull.cons (Pull.cons (Pull.cons (Pull.cons (Pull.cons Pull.p0)))))
theorem Pull.p7 {e1 e2 e3 e4 e5 e6 e7 e : Addr × Obj} {t : List (Addr × Obj)} : Pull e (e1 :: e2 :: e3 :: e4 :: e5 :: e6 :: e7 :: e :: t) (e1 :: e2 :: e3 :: e4 :: e5 :: e6 :: e7 :: t) := Pull.cons (Pull.cons (Pull.cons (Pull.cons (Pull.cons (Pull.cons (Pull.cons Pull.p0))))))
theorem Pull.p8 {e1 e2 e3 e4 e5 e6 e7 e8 e : Addr × Obj} {t : List (Addr × Obj)} : Pull e (e1 :: e2 :: e3 :: e4 :: e5 :: e6 :: e7 :: e8 :: e :: t) (e1 :: e2 :: e3 :: e4 :: e5 :: e6 :: e7 :: e8 :: t) := Pull.cons (Pull.cons (Pull.cons (Pull.cons (Pull.cons (Pull.cons (Pull.cons (Pull.cons Pull.p0)))))))
theorem Pull.p9 {e1 e2 e3 e4 e5 e6 e7 e8 e9 e : Addr × Obj} {t : List (Addr × Obj)} : Pull e (e1 :: e2 :: e3 :: e4 :: e5 :: e6 :: e7 :: e8 :: e9 :: e :: t) (e1 :: e2 :: e3 :: e4 :: e5 :: e6 :: e7 :: e8 :: e9 :: t) := Pull.cons (Pull.cons (Pull.cons (Pull.cons (Pull.cons (Pull.cons (Pull.cons (Pull.cons (Pull.cons Pull.p0))))))))
theorem Pull.p10 {e1 e2 e3 e4 e5 e6 e7 e8 e9 e10 e : Addr × Obj} {t : List (Addr × Obj)} : Pull e (e1 :: e2 :: e3 :: e4 :: e5 :: e6 :: e7 :: e8 :: e9 :: e10 :: e :: t) (e1 :: e2 :: e3 :: e4 :: e5 :: e6 :: e7 :: e8 :: e9 :: e10 :: t) := Pull.cons (Pull.cons (Pull.cons (Pull.cons (Pull.cons (Pull.cons (Pull.cons (Pull.cons (Pull.cons (Pull.cons Pull.p0)))))))))
theorem Pull.p11 {e1 e2 e3 e4 e5 e6 e7 e8 e9 e10 e11 e : Addr × Obj} {t : List (Addr × Obj)} : Pull e (e1 :: e2 :: e3 :: e4 :: e5 :: e6 :: e7 :: e8 :: e9 :: e10 :: e11 :: e :: t) (e1 :: e2 :: e3 :: e4 :: e5 :: e6 :: e7 :: e8 :: e9 :: e10 :: e11 :: t) := Pull.cons (Pull.cons (Pull.cons (Pull.cons (Pull.cons (Pull.cons (Pull.cons (Pull.cons (Pull.cons (Pull.cons (Pull.cons Pull.p0))))))))))
theorem Pull.p12 {e1 e2 e3 e4 e5 e6 e7 e8 e9 e10 e11 e12 e : Addr × Obj} {t : List (Addr × Obj)} : Pull e (e1 :: e2 :: e3 :: e4 :: e5 :: e6 :: e7 :: e8 :: e9 :: e10 :: e11 :: e12 :: e :: t) (e1 :: e2 :: e3 :: e4 :: e5 :: e6 :: e7 :: e8 :: e9 :: e10 :: e11 :: e12 :: t) := Pull.cons (Pull.cons (Pull.cons (Pull.cons (Pull.cons (Pull.cons (Pull.cons (Pull.cons (Pull.cons (Pull.cons (Pull.cons (Pull.cons Pull.p0)))))))))))
theorem Pull.p13 {e1 e2 e3 e4 e5 e6 e7 e8 e9 e10 e11 e12 e13 e : Addr × Obj} {t : List (Addr × Obj)} : Pull e (e1 :: e2 :: e3 :: e4 :: e5 :: e6 :: e7 :: e8 :: e9 :: e10 :: e11 :: e12 :: e13 :: e :: t) (e1 :: e2 :: e3 :: e4 :: e5 :: e6 :: e7 :: e8 :: e9 :: e10 :: e11 :: e12 :: e13 :: t) := Pull.cons (Pull.cons (Pull.cons (Pull.cons (Pull.cons (Pull.cons (Pull.cons (Pull.cons (Pull.cons (Pull.cons (Pull.cons (Pull.cons (Pull.cons Pull.p0))))))))))))
theorem Pull.p14 {e1 e2 e3 e4 e5 e6 e7 e8 e9 e10 e11 e12 e13 e14 e : Addr × Obj} {t : List (Addr × Obj)} : Pull e (e1 :: e2 :: e3 :: e4 :: e5 :: e6 :: e7 :: e8 :: e9 :: e10 :: e11 :: e12 :: e13 :: e14 :: e :: t) (e1 :: e2 :: e3 :: e4 :: e5 :: e6 :: e7 :: e8 :: e9 :: e10 :: e11 :: e12 :: e13 :: e14 :: t) := Pull.cons (Pull.cons (Pull.cons (Pull.cons (Pull.cons (Pull.cons (Pull.cons (Pull.cons (Pull.cons (Pull.cons (Pull.cons (Pull.cons (Pull.cons (Pull.cons Pull.p0)))))))))))))
theorem Pull.p15 {e1 e2 e3 e4 e5 e6 e7 e8 e9 e10 e11 e12 e13 e14 e15 e : Addr × Obj} {t : List (Addr × Obj)} : Pull e (e1 :: e2 :: e3 :: e4 :: e5 :: e6 :: e7 :: e8 :: e9 :: e10 :: e11 :: e12 :: e13 :: e14 :: e15 :: e :: t) (e1 :: e2 :: e3 :: e4 :: e5 :: e6 :: e7 :: e8 :: e9 :: e10 :: e11 :: e12 :: e13 :: e14 :: e15 :: t) := Pull.cons (Pull.cons (Pull.cons (Pull.cons (Pull.cons (Pull.cons (Pull.cons (Pull.cons (Pull.cons (Pull.cons (Pull.cons (Pull.cons (Pull.cons (Pull.cons (Pull.cons Pull.p0))))))))))))))
theorem Pull.p16 {e1 e2 e3 e4 e5 e6 e7 e8 e9 e10 e11 e12 e13 e14 e15 e16 e : Addr × Obj} {t : List (Addr × Obj)} : Pull e (e1 :: e2 :: e3 :: e4 :: e5 :: e6 :: e7 :: e8 :: e9 :: e10 :: e11 :: e12 :: e13 :: e14 :: e15 :: e16 :: e :: t) (e1 :: e2 :: e3 :: e4 :: e5 :: e6 :: e7 :: e8 :: e9 :: e10 :: e11 :: e12 :: e13 :: e14 :: e15 :: e16 :: t) := Pull.cons (Pull.cons (Pull.cons (Pull.cons (Pull.cons (Pull.cons (Pull.cons (Pull.cons (Pull.cons (Pull.cons (Pull.cons (Pull.cons (Pull.cons (Pull.cons (Pull.cons (Pull.cons Pull.p0)))))))))))))))
theorem Pull.p17 {e1 e2 e3 e4 e5 e6 e7 e8 e9 e10 e11 e12 e13 e14 e15 e16 e17 e : Addr × Obj} {t : List (Addr × Obj)} : Pull e (e1 :: e2 :: e3 :: e4 :: e5 :: e6 :: e7 :: e8 :: e9 :: e10 :: e11 :: e12 :: e13 :: e14 :: e15 :: e16 :: e17 :: e :: t) (e1 :: e2 :: e3 :: e4 :: e5 :: e6 :: e7 :: e8 :: e9 :: e10 :: e11 :: e12 :: e13 :: e14 :: e15 :: e16 :: e17 :: t) := Pull.cons (Pull.cons (Pull.cons (Pull.cons (Pull.cons (Pull.cons (Pull.cons (Pull.cons (Pull.cons (Pull.cons (Pull.cons (Pull.cons (Pull.cons (Pull.cons (Pull.cons (Pull.cons (Pull.cons Pull.p0))))))))))))))))
theorem Pull.p18 {e1 e2 e3 e4 e5 e6 e7 e8 e9 e10 e11 e12 e13 e14 e15 e16 e17 e18 e : Addr × Obj} {t : List (Addr × Obj)} : Pull e (e1 :: e2 :: e3 :: e4 :: e5 :: e6 :: e7 :: e8 :: e9 :: e10 :: e11 :: e12 :: e13 :: e14 :: e15 :: e16 :: e17 :: e18 :: e :: t) (e1 :: e2 :: e3 :: e4 :: e5 :: e6 :: e7 :: e8 :: e9 :: e10 :: e11 :: e12 :: e13 :: e14 :: e15 :: e16 :: e17 :: e18 :: t) := Pull.cons (Pull.cons (Pull.cons (Pull.cons (Pull.cons (Pull.cons (Pull.cons (Pull.cons (Pull.cons (Pull.cons (Pull.cons (Pull.cons (Pull.cons (Pull.cons (Pull.cons (Pull.cons (Pull.cons (Pull.cons Pull.p0)))))))))))))))))
theorem Pull.p19 {e1 e2 e3 e4 e5 e6 e7 e8 e9 e10 e11 e12 e13 e14 e15 e16 e17 e18 e19 e : Addr × Obj} {t : List (Addr × Obj)} : Pull e (e1 :: e2 :: e3 :: e4 :: e5 :: e6 :: e7 :: e8 :: e9 :: e10 :: e11 :: e12 :: e13 :: e14 :: e15 :: e16 :: e17 :: e18 :: e19 :: e :: t) (e1 :: e2 :: e3 :: e4 :: e5 :: e6 :: e7 :: e8 :: e9 :: e10 :: e11 :: e12 :: e13 :: e14 :: e15 :: e16 :: e17 :: e18 :: e19 :: t) := Pull.cons (Pull.cons (Pull.cons (Pull.cons (Pull.cons (Pull.cons (Pull.cons (Pull.cons (Pull.cons (Pull.cons (Pull.cons (Pull.cons (Pull.cons (Pull.cons (Pull.cons (Pull.cons (Pull.cons (Pull.cons (Pull.cons Pull.p0))))))))))))))))))
theorem Pull.p20 {e1 e2 e3 e4 e5 e6 e7 e8 e9 e10 e11 e12 e13 e14 e15 e16 e17 e18 e19 e20 e : Addr × Obj} {t : List (Addr × Obj)} : Pull e (e1 :: e2 :: e3 :: e4 :: e5 :: e6 :: e7 :: e8 :: e9 :: e10 :: e11 :: e12 :: e13 :: e14 :: e15 :: e16 :: e17 :: e18 :: e19 :: e20 :: e :: t) (e1 :: e2 :: e3 :: e4 :: e5 :: e6 :: e7 :: e8 :: e9 :: e10 :: e11 :: e12 :: e13 :: e14 :: e15 :: e16 :: e17 :: e18 :: e19 :: e20 :: t) := Pull.cons (Pull.cons (Pull.cons (Pull.cons (Pull.cons (Pull.cons (Pull.cons (Pull.cons (Pull.cons (Pull.cons (Pull.cons (Pull.cons (Pull.cons (Pull.cons (Pull.cons (Pull.cons (Pull.cons (Pull.cons (Pull.cons (Pull.cons Pull.p0)))))))))))))))))))
theorem Pull.news {h₀ h : Heap} {L : Addr} {e : Addr × Obj} {led r : List (Addr × Obj)} (hp : Pull e led r) (N : News h₀ L h led) : News h₀ L h (e :: r) :=
  cb_drop N fun q hq => (hp q).mpr (List.mem_cons.mp hq)
theorem unr_end {h₀ : Heap} {L I : Addr} {it : Obj} {rest : (Str → Option Value) → List (Addr × Obj) → Prop} {s₁ : Shared} {h' : Heap} {tk : Nat} {m' : Str → Option Value} {all news' : List (Addr × Obj)} (F : Fr h₀ L h' m') (N : News h₀ L h' all)
    (hp : Pull (I, it) all news') (off : ∀ p ∈ news', p.1 ≠ I) (r : rest m' news') : UnrEnd h₀ L s₁ I it rest { s₁ with heap := h', toks := tk } :=
  UnrEnd.intro F N news' (fun p hq => (hp p).mpr (List.mem_cons.mp hq)) off r
theorem led_in {h₀ h : Heap} {L : Addr} {led t r p : List (Addr × Obj)} (hp : Pre led (t ++ r) p) (N : News h₀ L h led) : News h₀ L h (t ++ (p ++ r)) := by
  rw [hp.eq] at N
  exact cb_drop N fun q hq => by
    simp only [List.mem_append] at hq ⊢
    rcases hq with h | h | h <;> simp [h]
theorem led_out {h₀ h : Heap} {L : Addr} {t r p : List (Addr × Obj)} (N : News h₀ L h (t ++ (p ++ r))) : News h₀ L h (p ++ (t ++ r)) :=
  cb_drop N fun q hq => by
    simp only [List.mem_append] at hq ⊢
    rcases hq with h | h | h <;> simp [h]
theorem led_swap {h₀ h : Heap} {L : Addr} {t r : List (Addr × Obj)} (N : News h₀ L h (t ++ r)) : News h₀ L h (r ++ (t ++ [])) :=
  cb_drop N fun q hq => by
    simp only [List.mem_append, List.not_mem_nil, or_false] at hq ⊢
    exact hq.symm
def AwayAll (c : SymSt) : List (Addr × Obj) → Prop
  | [] => True
  | p :: r => (∀ q ∈ c.led, q.1 ≠ p.1) ∧ AwayAll c r
theorem AwayAll.off {c : SymSt} {rest : List (Addr × Obj)} (hr : c.Off rest) : ∀ {l : List (Addr × Obj)}, AwayAll c l → c.Off (l ++ rest)
  | [], _ => hr
  | _ :: _, h => SymSt.Off.cons h.1 (AwayAll.off hr h.2)
theorem SymSt.Off.tail {c : SymSt} {l rest : List (Addr × Obj)} (h : c.Off (l ++ rest)) : c.Off rest := h.sub fun _ hp => List.mem_append_right _ hp
theorem away_lt {c : SymSt} {rest : List (Addr × Obj)} {a : Addr} (h : ∀ p ∈ c.led ++ rest, p.1 < a) : ∀ q ∈ c.led, q.1 ≠ a := fun q hq => Nat.ne_of_lt (h q (List.mem_append_left _ hq))
theorem rest_lt {c : SymSt} {rest : List (Addr × Obj)} {a : Addr} (h : ∀ p ∈ c.led ++ rest, p.1 < a) : ∀ q ∈ rest, q.1 ≠ a := fun q hq => Nat.ne_of_lt (h q (List.mem_append_right _ hq))
theorem away_al {c : SymSt} {rest : List (Addr × Obj)} {a : Addr} (h : AllLt a (c.led ++ rest)) : ∀ q ∈ c.led, q.1 ≠ a := away_lt (allLt_mem h)
theorem rest_al {c : SymSt} {rest : List (Addr × Obj)} {a : Addr} (h : AllLt a (c.led ++ rest)) : ∀ q ∈ rest, q.1 ≠ a := rest_lt (allLt_mem h)
theorem all_app {t r : List (Addr × Obj)} {a : Addr} (h : ∀ p ∈ t, p.1 ≠ a) (h' : ∀ p ∈ r, p.1 ≠ a) : ∀ p ∈ t ++ r, p.1 ≠ a := fun p hp => (List.mem_append.mp hp).elim (h p) (h' p)
section
variable {prog : Program} {w : World} {A : Around} {E : Value → Shared → Prop} {s : Shared} {env : Env} {h₀ : Heap} {body : List Stmt} {Q : Flow → Shared → Prop}
theorem tup_one {xn : Str} {l : Addr} {v : Value} {nn : Nat} {m₀ : Str → Option Value} {news : List (Addr × Obj)}
    (hh : A.handled = none) (F : Fr h₀ env.locals s.heap m₀) (N : News h₀ env.locals s.heap news) (hl : (l, tupL [v] nn) ∈ news)
    (turn : ∀ (I : Addr) (it : Obj) (h : Heap) (tk : Nat), (∀ p ∈ news, p.1 < I) →
      Fr h₀ env.locals h (fun y => if y = xn then some v else m₀ y) → News h₀ env.locals h ((I, it) :: news) →
      wpAny (model prog w) A (execs body env) (UnrPost h₀ env.locals { s with heap := h, toks := tk } I it (fun m' news' => (l, tupL [v] nn) ∈ news' ∧ ∀ h tk, Fr h₀ env.locals h m' → News h₀ env.locals h news' → Q .next { s with heap := h, toks := tk }) Q) E { s with heap := h, toks := tk }) :
    wpAny (model prog w) A (pyIter (.ref l)) (fun it s₂ => LoopAtV prog w A h₀ env xn body Q E it s₂) E s := by
  have hol := N _ hl
  have hls : s.heap.IsTuple l #[v] := ⟨_, hol.1, rfl, nn, rfl⟩
  have hlt : l < s.heap.objs.size := Heap.lt_size hol.1
  refine wpAny_pyIter_tuple hls ?_
  have W := Walks.tuple (prog := prog) (w := w) hh s.heap.objs.size l (Nat.ne_of_lt hlt) #[v]
  have hIn := next_is_new F
  have hIlt : ∀ p ∈ news, p.1 < s.heap.objs.size := fun p hp => Heap.lt_size (N p hp).1
  refine ⟨s.heap.objs.size, _, _, 1, _, _, m₀, news, fun i m₁ led => match i with | 0 => led = news ∧ m₁ = m₀ | _ => ∀ h tk, Fr h₀ env.locals h m₁ → News h₀ env.locals h led → Q .next { s with heap := h, toks := tk }, rfl, W, ?_, ?_, ?_, ⟨⟨_, Heap.get?_push_size _ rfl, rfl, rfl⟩, ?_⟩, F.push _,
    fun p hp => ⟨Heap.get?_push_of_some _ (N p hp).1, (N p hp).2⟩, ⟨rfl, rfl⟩, ?_, ?_⟩
  · intro hm
    rcases List.mem_cons.mp hm with e | hm
    · exact absurd F.ns.lt (e ▸ Nat.lt_irrefl _)
    · exact hol.2.1 (List.mem_singleton.mp hm).symm
  · intro b hb
    rw [List.mem_singleton.mp hb]
    exact hIn
  · intro p hp hm
    exact absurd (hIlt p hp) (by rw [List.mem_singleton.mp hm]; exact Nat.lt_irrefl _)
  · exact ⟨_, Heap.get?_push_of_some _ hol.1, rfl, nn, rfl⟩
  · rintro i v' m₁ led s₁ own ⟨h, tk, rfl⟩ hin hP hJ hoff hown hget hall hst F₁ N₁
    have hi0 : i = 0 := by omega
    subst hi0
    obtain ⟨rfl, rfl⟩ := hJ
    have hv : v' = v := by simpa using hP.symm
    subst hv
    obtain ⟨oI, hoI, hcI, _⟩ := hst.1
    have hI : (s.heap.objs.size, oI) ∈ own := hall _ (.head _) hIn oI hoI
    have N₂ : News h₀ env.locals h ((s.heap.objs.size, oI) :: led) := cb_drop N₁ fun p hp => by
      rcases List.mem_cons.mp hp with rfl | hp
      · exact List.mem_append_left _ hI
      · exact List.mem_append_right _ hp
    refine wpAny_mono (turn _ oI h tk hIlt F₁ N₂) (fun f s₂ p => ?_) fun _ _ x => x
    have up : UnrEnd h₀ env.locals { s with heap := h, toks := tk } s.heap.objs.size oI (fun m' news' => (l, tupL [v'] nn) ∈ news' ∧ ∀ h tk, Fr h₀ env.locals h m' → News h₀ env.locals h news' → Q .next { s with heap := h, toks := tk }) s₂ →
        LoopStepU h₀ env.locals [s.heap.objs.size] own (fun m₁ led => ∀ h tk, Fr h₀ env.locals h m₁ → News h₀ env.locals h led → Q .next { s with heap := h, toks := tk }) { s with heap := h, toks := tk } .next s₂ := by
      rintro ⟨h', tk', m', news', rfl, F', N', ho, hl', r⟩
      refine ⟨rfl, h', tk', m', news', rfl, F', fun p hp => ?_, fun p hp hI => ho p hp (List.mem_singleton.mp hI), r⟩
      rcases List.mem_append.mp hp with hp | hp
      · have h2 := hget p hp
        rcases List.mem_cons.mp (hown p hp) with e | e
        · have h3 : p = (s.heap.objs.size, oI) := Prod.ext e (Option.some.inj ((e ▸ h2).symm.trans hoI))
          rw [h3]; exact N' _ (.head _)
        · have e := List.mem_singleton.mp e
          have h4 : h.get? l = some (tupL [v'] nn) := (N₂ _ (List.mem_cons_of_mem _ hl)).1
          have h3 : p = (l, tupL [v'] nn) := Prod.ext e (Option.some.inj ((e ▸ h2).symm.trans h4))
          rw [h3]; exact N' _ (List.mem_cons_of_mem _ hl')
      · exact N' _ (List.mem_cons_of_mem _ hp)
    cases f with
    | ret v => exact p
    | brk => exact p
    | next => exact up p
    | cont => exact up p
  · rintro h' tk m' led F' N' _ hJ
    exact hJ h' tk F' N'
end
end Mine
end
theorem Mine.calm_B18 : True ∧ True := by
  w_top off
  k_with_none
  (try walk1)
  all_goals trivial
section
open PySem PySem.W PySem.Calls PySem.Spec PyProof.Rows
namespace Mine
theorem atomP_spec {w : World} {p : Program} {loose : List Str} {mean : ExcName → Option Value} {mg mb : Str → Option Value}
    (cn : Str) (cs : Scope) (L a : Addr) (ccd : Value) (cl : List (Str × Addr)) (outer : List Env) (A₀ : Around) (base h₀ : Heap) (m : Str → Option Value)
    (c : SymSt) (n : Nat) (led pre rest : List (Addr × Obj)) (x : Addr) (t : Str) (tt : Tok) (s : Shared) (Q E : Value → Shared → Prop)
    (B : Below A₀ base outer h₀) (F : Fr h₀ L s.heap m) (X : (hd.heap_39 w.params).In h₀) (T : Top p loose mean mg mb h₀) (hk : cs.kind = .function)
    (N : News h₀ L s.heap led) (hok : c.Ok PySem.Challenge.rw_rh0067_01.row.prog w n) (hpre : Pre led (c.led ++ rest) pre) (hn : n ≤ 5000) (hr : c.Off rest) (hw : AwayAll c pre) (hx : c.x = x)
    (ret : ∀ (c' : SymSt) (i : Int) (ti : Tok) (h' : Heap) (tk' : Nat), c'.Ok PySem.Challenge.rw_rh0067_01.row.prog w (n + 1) → c.Le c' → c'.x = x → (x, instObj 154 c'.dx) ∈ c'.led ++ rest → c'.Off rest → c'.Off (pre ++ rest) → valueAt c'.kvs t = some (.int i ti) → 0 ≤ i → Fr h₀ L h' m → News h₀ L h' (pre ++ (c'.led ++ rest)) → Q (.int i ti) { s with heap := h', toks := tk' }) :
    wpAny (model PySem.Challenge.rw_rh0067_01.row.prog w) (ktrTop 500 1000 none cn cs L a ccd cl outer) (call (.ref 88) [.ref x, .str t tt]) Q E s :=
  atom_spec cn cs L a ccd cl outer A₀ base h₀ m c n (pre ++ rest) x t tt s Q E B F X T hk (led_in hpre N) hok hn (AwayAll.off hr hw) hx
    fun c' i ti h' tk' hok' hle ho hv hi F' N' => ret c' i ti h' tk' hok' hle (hle.ax.trans hx) (by rw [← hle.ax.trans hx]; exact .head _) ho.tail ho hv hi F' (led_out N')
theorem funcP_spec {w : World} {p : Program} {loose : List Str} {mean : ExcName → Option Value} {mg mb : Str → Option Value}
    (cn : Str) (cs : Scope) (L a : Addr) (ccd : Value) (cl : List (Str × Addr)) (outer : List Env) (A₀ : Around) (base h₀ : Heap) (m : Str → Option Value)
    (c : SymSt) (n : Nat) (led pre rest : List (Addr × Obj)) (x : Addr) (t : Str) (r : Int) (tt tr : Tok) (s : Shared) (Q E : Value → Shared → Prop)
    (B : Below A₀ base outer h₀) (F : Fr h₀ L s.heap m) (X : (hd.heap_39 w.params).In h₀) (T : Top p loose mean mg mb h₀) (hk : cs.kind = .function)
    (N : News h₀ L s.heap led) (hok : c.Ok PySem.Challenge.rw_rh0067_01.row.prog w n) (hpre : Pre led (c.led ++ rest) pre) (hn : n ≤ 4000) (hr : c.Off rest) (hw : AwayAll c pre) (hx : c.x = x)
    (ret : ∀ (c' : SymSt) (i f : Int) (ti tf : Tok) (ka : Addr) (h' : Heap) (tk' : Nat), c'.Ok PySem.Challenge.rw_rh0067_01.row.prog w (n + 2) → c.Le c' → c'.x = x → (x, instObj 154 c'.dx) ∈ c'.led ++ rest → c'.Off rest → c'.Off (pre ++ rest) → valueAt c'.kvs t = some (.int i ti) → atKey c'.xs [i, r] = some (ka, .int f tf) → Fr h₀ L h' m → News h₀ L h' (pre ++ (c'.led ++ rest)) → Q (.int f tf) { s with heap := h', toks := tk' }) :
    wpAny (model PySem.Challenge.rw_rh0067_01.row.prog w) (ktrTop 480 900 none cn cs L a ccd cl outer) (call (.ref 109) [.ref x, .str t tt, .int r tr]) Q E s :=
  func_spec cn cs L a ccd cl outer A₀ base h₀ m c n (pre ++ rest) x t r tt tr s Q E B F X T hk (led_in hpre N) hok hn (AwayAll.off hr hw) hx
    fun c' i f ti tf ka h' tk' hok' hle ho hv hf F' N' => ret c' i f ti tf ka h' tk' hok' hle (hle.ax.trans hx) (by rw [← hle.ax.trans hx]; exact .head _) ho.tail ho hv hf F' (led_out N')
end Mine
end
theorem Mine.calm_B19 : True ∧ True := by
  w_top off
  k_with_none
  (try walk1)
  all_goals trivial
section
open PySem PySem.W PySem.Calls PySem.Spec PyProof.Rows
namespace Mine
/-- an own exception class that has an `__init__` of its own: as the library's check, without the word on `__init__` -/
def excOk (K : Frag) (C : Addr) (bmB : List Value) (newId : String) : Bool := match K.lookup C with
  | some ⟨.type "type", _, .cls cd, sl⟩ => (match cd.mro, sl.toList with
    | .ref C' :: bm, [_, _, _, _, some (.builtin n), _] => C' == C && n == newId && !cd.hasDel && cd.hasDict && tailIn K bmB bm
    | _, _ => false)
  | _ => false
structure ExcOk (h : Heap) (C : Addr) (bmB : List Value) (newId : String) : Prop where
  obj : ∃ bm N nm q bs sn sub ab col dd k0 k1 k2 k3 k5, h.get? C = some (excClassObj nm q C N bs bm true sn sub ab col dd k0 k1 k2 k3 k5 newId) ∧ OwnTail h bmB bm
theorem excOk_of {K : Frag} {h : Heap} {C : Addr} {bmB : List Value} {newId : String} (X : K.In h) (q : excOk K C bmB newId = true) : ExcOk h C bmB newId := by
  unfold excOk at q
  split at q
  · rename_i dd cd sl ho
    split at q
    · rename_i C' bm k0 k1 k2 k3 n k5 hm hs
      simp only [Bool.and_eq_true, beq_iff_eq, Bool.not_eq_true'] at q
      obtain ⟨⟨⟨⟨rfl, rfl⟩, hdel⟩, hdict⟩, ht⟩ := q
      obtain ⟨nm, bs, mro, ns, qn, hd, sn, sub, ab, col, del⟩ := cd
      dsimp only at hm hdel hdict
      subst hm hdel hdict
      have hsl : sl = #[k0, k1, k2, k3, some (.builtin n), k5] := by
        obtain ⟨l⟩ := sl
        simp only at hs
        rw [hs]
      subst hsl
      exact ⟨⟨bm, ns, nm, qn, bs, sn, sub, ab, col, dd, k0, k1, k2, k3, k5, X _ _ ho, tail_of_in X ht⟩⟩
    · cases q
  · cases q
abbrev excO (C t : Addr) : Obj := { cls := .ref C, data := .fields #[.ref t, .none, .none, .none, .bool false, .none] }
section
variable {prog : Program} {w : World} {A : Around} {E : Value → Shared → Prop} {K : Frag} {C fI : Addr} {B Bn newId nid initId inN : String} {bmB bmN : List Value}
theorem call_excI {s : Shared} {h₀ : Heap} {L : Addr} {m : Str → Option Value} {news : List (Addr × Obj)} {rest : List Value} {Q : Value → Shared → Prop}
    (Fn : ExcBaseFacts Bn newId inN bmN) (hBn : bmB.contains (.type Bn) = true) (FB : ExcBaseFacts B nid initId bmB)
    (F : Fr h₀ L s.heap m) (X₀ : K.In h₀) (N : News h₀ L s.heap news) (hx : excOk K C bmB newId = true) (hi : findIn K (.ref C) "__init__" = some (some (.ref fI))) (hf : isFn K (.ref fI) = true) (hrest : rest.length ≤ sizeLine)
    (h : ∀ e t h', Fr h₀ L h' m → News h₀ L h' ((e, excO C t) :: (t, tupL rest 0) :: news) → (∀ p ∈ news, p.1 < t) → (∀ p ∈ news, p.1 < e) → t < e →
      codeAny (model prog w) (A.under (.builtin "type.__call__" ⟨.ref C :: rest, []⟩)) (.call (.ref fI) ⟨.ref e :: rest, []⟩) (InitBack e fun r s' => match r with | .ok (.ret v) => Q v s' | .ok _ => False | .error e => E e s') { s with heap := h' }) :
    wpAny (model prog w) A (call (.ref C) rest) Q E s := by
  obtain ⟨hh, g, d, tk, os⟩ := s
  have X := X₀.keeps F.keep
  obtain ⟨bm, Ns, nm, q, bs, sn, sub, ab, col, dd, k0, k1, k2, k3, k5, hC, T⟩ := (excOk_of X hx).obj
  have f1 := tc_lookup
  have f2 := tc_bind (.ref C)
  have hT : (⟨hh, g, d, tk, os⟩ : Shared).TypeIs (.ref C) "type" := ⟨_, hC, rfl⟩
  refine wpAny_call (codeAny_of_tree ?_)
  show wpAny _ _ (callAny (.ref C) _) _ _ _
  repeat (any_goals (first | assumption | with_reducible refine wpAny_loadPart_at hC ?_ | wp_step))
  refine ⟨rfl, ?_⟩
  refine codeAny_call_builtin_at (Code.quiet_builtin _ (by decide +kernel)) entry_typeCall (wpAny_check_type_call_sub hC ?_)
  repeat (first | with_reducible refine wpAny_loadPart_at hC ?_ | with_reducible refine wpAny_madeBy_exc hC ?_ | wp_step)
  refine codeAny_call_builtin_code (Code.quiet_builtin _ Fn.quiet) (wpAny_check_new_subU Fn hBn T hC ?_)
  refine codeAny_exc_new_subU Fn hBn FB T hC ?_ hrest
  show wpAny _ _ _ _ _ _
  have k : ∀ b o, hh.get? b = some o → ((hh.push (tupL rest 0)).push (excO C hh.objs.size)).get? b = some o := fun b o e => Heap.get?_push_of_some _ (Heap.get?_push_of_some _ e)
  have hC₁ := k _ _ hC
  have hget : ((hh.push (tupL rest 0)).push (excO C hh.objs.size)).get? (hh.objs.size + 1) = some (excO C hh.objs.size) := by heap_get
  have hcC : (Value.ref C :: bm).contains (.ref C) = true := by simp
  have Xk : K.In ((hh.push (tupL rest 0)).push (excO C hh.objs.size)) := X.keeps k
  have NN := (N.push F (tupL rest 0)).push (F.push _) (excO C hh.objs.size)
  rw [Heap.size_push] at NN
  have fin := h (hh.objs.size + 1) hh.objs.size _ ((F.push _).push _) NN (fun p hp => Heap.lt_size (N p hp).1) (fun p hp => Nat.lt_succ_of_lt (Heap.lt_size (N p hp).1)) (Nat.lt_succ_self _)
  unfold isInstance
  repeat (first | with_reducible refine wpAny_loadPart_at hget ?_ | (with_reducible refine wpAny_isSubtype_exc hC₁ ?_; rw [hcC]) | wp_step)
  show wpAny _ _ (isSubtype (.ref C) (.ref C)) _ _ _
  refine wpAny_isSubtype_exc hC₁ ?_
  rw [hcC]
  rw [if_neg (by decide)]
  have I : InstAt ((hh.push (tupL rest 0)).push (excO C hh.objs.size)) (hh.objs.size + 1) (excO C hh.objs.size) C none := ⟨hget, rfl, rfl, trivial⟩
  refine wpAny_bind (wpAny_holding ?_)
  refine special_fn (s := ⟨(hh.push (tupL rest 0)).push (excO C hh.objs.size), g, d, tk, os⟩) (args := rest) Xk I hi (beq_iff_eq.mp hf) (wpAny_call (codeAny_mono fin fun r s' z => ?_))
  rcases r with e | (v | _ | _ | _) <;> first | exact z | exact z.elim | skip
  obtain ⟨rfl, z⟩ := z
  exact wpAny_pure z
end
end Mine
end
theorem Mine.calm_B20 : True ∧ True := by
  w_top off
  k_with_none
  (try walk1)
  all_goals trivial
section
open PySem PySem.W PySem.Calls PySem.Spec PyProof.Rows Builtin Builtin.ObjectAttr Builtin.Getset_descriptor
namespace Mine
theorem refuse_exc (self : Value) (a b : Addr) : refuseLoop self "__setattr__" [.ref a, .ref b, .type "Exception", .type "BaseException", .type "object"] = pure () := by
  rw [refuseLoop_ref, refuseLoop_ref]
  exact PySem.F.store_Exception.passes self
abbrev excD (C t d : Addr) : Obj := { cls := .ref C, dict := some d, data := .fields #[.ref t, .none, .none, .none, .bool false, .none] }
section
variable {prog : Program} {w : World} {A : Around} {E : Value → Shared → Prop} {K : Frag} {C C2 : Addr}
theorem store_excI {s : Shared} {h₀ : Heap} {L x t : Addr} {m : Str → Option Value} {rest : List (Addr × Obj)} {name : Str} {v : Value} {Q : Unit → Shared → Prop}
    (F : Fr h₀ L s.heap m) (X₀ : K.In h₀) (N : News h₀ L s.heap ((x, excO C t) :: rest)) (hoff : ∀ p ∈ rest, p.1 ≠ x)
    (hs : findIn K (.ref C) "__setattr__" = some (some (.builtin "object.__setattr__"))) (hm : (clsIn K C).map (·.mro) = some [.ref C, .ref C2, .type "Exception", .type "BaseException", .type "object"])
    (hd : (clsIn K C).any (·.hasDict) = true) (hn : findIn K (.ref C) name = some none)
    (h : ∀ d h' tk tk' i, Fr h₀ L h' m → News h₀ L h' ((x, excD C t d) :: (d, dictOf [⟨i, .str name tk, v⟩] 1) :: rest) → (∀ p ∈ rest, p.1 < d) → x < d → Q () { s with heap := h', toks := tk' }) :
    wpAny (model prog w) A (setAttr (.ref x) name v) Q E s := by
  obtain ⟨hh, g, dr, tk, os⟩ := s
  have X : K.In hh := X₀.keeps F.keep
  have hx := (N _ (.head _)).1
  have I : InstAt hh x (excO C t) C none := ⟨hx, rfl, rfl, trivial⟩
  refine set_plain (s := ⟨hh, g, dr, tk, os⟩) X I hs ?_
  have SF := PySem.F.store_object
  obtain ⟨cd, hc, hcm⟩ := Option.map_eq_some_iff.mp hm
  have hcd : cd.hasDict = true := by rw [hc] at hd; exact hd
  have sub : Looks (model prog w) hh (isInstance (.ref x) (.type "object")) true := I.type.andThen (looks_mroIn X (by unfold mroIn; rw [hc, Option.bind_some, hcm]; rfl))
  refine codeAny_call_builtin SF.slot.plain SF.entry (@check_slot (model prog w) _ _ ⟨hh, g, dr, tk + 1, os⟩ "object.__setattr__" "object" "__setattr__" (.ref x) [.str name tk, v] [] _ SF.kind SF.split sub (SF.args (.ref x) (.str name tk) v) ?_)
  have hmr : Looks (model prog w) hh (mroOf (.ref C)) cd.mro := (looks_clsIn X hc).andThen .now
  rw [osa_eq, refuse_eq]
  refine wpAny_bind (wpAny_bind (I.type.here (wpAny_bind (hmr.here ?_))))
  rw [hcm, refuse_exc]
  have L2 : Looks (model prog w) hh (typeLookup (.ref C) name) none := looks_findIn X hn
  refine wpAny_pure (wpAny_bind (I.type.here (wpAny_bind ?_)))
  refine L2.here (wpAny_bind (wpAny_pure ?_))
  show wpAny _ _ (storeInOwnDict _ _ _ _ _ _) _ _ _
  unfold storeInOwnDict
  refine wpAny_bind (wpAny_pure (wpAny_bind (wpAny_bind (wpAny_loadPart hx (wpAny_bind ?_)))))
  have L3 : Looks (model prog w) hh (classData C) cd := looks_clsIn X hc
  refine L3.here ?_
  rw [hcd]
  have G0 := F.push (o := emptyDict)
  have M0 := N.push F emptyDict
  have hlt : ∀ p ∈ (x, excO C t) :: rest, p.1 < hh.objs.size := fun p hp => Heap.lt_size (N p hp).1
  have hxs : @LT.lt Nat _ x hh.objs.size := hlt _ (.head _)
  have hx₁ : (hh.push emptyDict).get? x = some (excO C t) := Heap.get?_push_of_some _ hx
  obtain ⟨G1, M1⟩ := news_upd (pre := [(hh.objs.size, emptyDict)]) (post := rest) (d := x) (o := excO C t) (o' := excD C t hh.objs.size) (f := fun o => { cls := o.cls, dict := some hh.objs.size, data := o.data, slots := o.slots }) G0 M0
    (fun p hp => by rw [List.mem_singleton.mp hp]; exact Nat.ne_of_gt hxs) hoff rfl rfl
  have hD := (M1 (hh.objs.size, emptyDict) (.head _)).1
  obtain ⟨G2, M2⟩ := news_upd (pre := []) (d := hh.objs.size) (o := emptyDict) (o' := dictOf [⟨PyData.keyHash w.params name, .str name (tk + 1), v⟩] 1) (f := Obj.putName name (PyData.keyHash w.params name) (.str name (tk + 1)) v) G1 M1
    (fun p hp => nomatch hp) (fun p hp => by
      rcases List.mem_cons.mp hp with rfl | hp
      · exact Nat.ne_of_lt hxs
      · exact Nat.ne_of_lt (hlt p (.tail _ hp))) rfl rfl
  have hD' := (M2 (hh.objs.size, _) (.head _)).1
  rw [if_neg (by decide)]
  show wpAny _ _ (alloc emptyDict >>= _) _ _ _
  refine wpAny_bind (wpAny_alloc' (wpAny_bind (wpAny_update' hx₁ ?_)))
  refine wpAny_pure (a := some hh.objs.size) ?_
  show wpAny _ _ (storeInDict hh.objs.size (.str name tk) name v) _ _ _
  unfold storeInDict newKeyGuard
  refine wpAny_bind (wpAny_pure (wpAny_bind ?_))
  unfold nsSet
  refine wpAny_bind (wpAny_bind (wpAny_askSetting (wpAny_pure (wpAny_bind (wpAny_mkText (wpAny_bind (wpAny_loadPart hD ?_)))))))
  have c : (!(#[] : Array DictEntry).any (·.key.isStr name) && (#[] : Array DictEntry).any (·.refKey)) = false := by simp
  dsimp only
  rw [aRefKeyMayBeTheName_at, c]
  refine wpAny_updatePart hD ?_
  refine wpAny_bind (wpAny_lookBehind hD' (pastItsLine_dict (Nat.succ_le_succ (Nat.zero_le _))) ?_)
  have M3 : News h₀ L _ ((x, excD C t hh.objs.size) :: (hh.objs.size, dictOf [⟨PyData.keyHash w.params name, .str name (tk + 1), v⟩] 1) :: rest) := cb_drop M2 fun p hp => by
    rcases List.mem_cons.mp hp with rfl | hp
    · exact .tail _ (.head _)
    · rcases List.mem_cons.mp hp with rfl | hp
      · exact .head _
      · exact .tail _ (.tail _ hp)
  have fin := h hh.objs.size _ (tk + 1) (tk + 1 + 1) _ G2 M3 (fun p hp => hlt p (.tail _ hp)) hxs
  exact wpAny_pure fin
end
end Mine
end
theorem Mine.calm_B21 : True ∧ True := by
  w_top off
  k_with_none
  (try walk1)
  all_goals trivial
section
open PySem PySem.W PySem.Calls PySem.Spec PyProof.Rows
namespace Mine
theorem ok51 {w : World} : excOk (hd.heap_39 w.params) 51 [.type "Exception", .type "BaseException", .type "object"] "Exception.__new__" = true := by kernel_rfl
theorem mro51 {w : World} : (clsIn (hd.heap_39 w.params) 51).map (·.mro) = some [.ref 51, .ref 31, .type "Exception", .type "BaseException", .type "object"] := by kernel_rfl
theorem dict51 {w : World} : (clsIn (hd.heap_39 w.params) 51).any (·.hasDict) = true := by kernel_rfl
theorem init51 {w : World} : findIn (hd.heap_39 w.params) (.ref 51) "__init__" = some (some (.ref 48)) := by kernel_rfl
theorem set51 {w : World} : findIn (hd.heap_39 w.params) (.ref 51) "__setattr__" = some (some (.builtin "object.__setattr__")) := by kernel_rfl
theorem ball51 {w : World} : findIn (hd.heap_39 w.params) (.ref 51) "ball" = some none := by kernel_rfl
theorem fn48 {w : World} : isFn (hd.heap_39 w.params) (.ref 48) = true := by kernel_rfl
theorem base_in : ([.type "Exception", .type "BaseException", .type "object"] : List Value).contains (.type "Exception") = true := by decide
def ballL (D0 D1 D2 D3 D4 D5 : Addr) (i f : Int) (k1 k2 k3 k4 k5 k6 k7 k8 : Tok) : List (Addr × Obj) :=
  [(D0, tupL [.str (Str.ofString "s") k1, .int 16 k2, .ref D1] 0), (D1, tupL [.ref D3, .ref D2] 0), (D2, tupL [.str (Str.ofString "a") k3, .int 25 k4] 0),
    (D3, tupL [.str (Str.ofString "s") k5, .int f k6, .ref D4] 0), (D4, tupL [.ref D5] 0), (D5, tupL [.str (Str.ofString "a") k7, .int i k8] 0)]
theorem ballL_rest {rest : List (Addr × Obj)} {D0 D1 D2 D3 D4 D5 : Addr} {i f : Int} {k1 k2 k3 k4 k5 k6 k7 k8 : Tok} (h0 : ∀ q ∈ rest, q.1 ≠ D0) (h1 : ∀ q ∈ rest, q.1 ≠ D1) (h2 : ∀ q ∈ rest, q.1 ≠ D2) (h3 : ∀ q ∈ rest, q.1 ≠ D3) (h4 : ∀ q ∈ rest, q.1 ≠ D4) (h5 : ∀ q ∈ rest, q.1 ≠ D5) :
    ∀ p ∈ ballL D0 D1 D2 D3 D4 D5 i f k1 k2 k3 k4 k5 k6 k7 k8, ∀ q ∈ rest, q.1 ≠ p.1 := by
  intro p hp
  simp only [ballL, List.mem_cons, List.not_mem_nil, or_false] at hp
  rcases hp with rfl | rfl | rfl | rfl | rfl | rfl <;> assumption
def Ball (c : SymSt) (bl : List (Addr × Obj)) (b : Addr) : Prop :=
  ∃ D1 D2 D3 D4 D5 i f k1 k2 k3 k4 k5 k6 k7 k8 ai ta ka, bl = ballL b D1 D2 D3 D4 D5 i f k1 k2 k3 k4 k5 k6 k7 k8 ∧ valueAt c.kvs (Str.ofString "zero_divisor") = some (.int i k8) ∧
    valueAt c.kvs (Str.ofString "evaluation_error") = some (.int ai ta) ∧ atKey c.xs [ai, 1] = some (ka, .int f k6)
theorem Ball.up {c c' : SymSt} {bl : List (Addr × Obj)} {b : Addr} (h : Ball c bl b) (l : c.Le c') : Ball c' bl b := by
  obtain ⟨D1, D2, D3, D4, D5, i, f, k1, k2, k3, k4, k5, k6, k7, k8, ai, ta, ka, e, h1, h2, h3⟩ := h
  exact ⟨D1, D2, D3, D4, D5, i, f, k1, k2, k3, k4, k5, k6, k7, k8, ai, ta, ka, e, l.km _ _ h1, l.km _ _ h2, l.fm _ _ h3⟩
theorem err_spec {w : World} {p : Program} {loose : List Str} {mean : ExcName → Option Value} {mg mb : Str → Option Value}
    (cn : Str) (cs : Scope) (L a : Addr) (ccd : Value) (cl : List (Str × Addr)) (outer : List Env) (A₀ : Around) (base h₀ : Heap) (m : Str → Option Value)
    (c : SymSt) (n : Nat) (rest : List (Addr × Obj)) (x : Addr) (tt : Tok) (s : Shared) (Q E : Value → Shared → Prop)
    (B : Below A₀ base outer h₀) (F : Fr h₀ L s.heap m) (X : (hd.heap_39 w.params).In h₀) (T : Top p loose mean mg mb h₀) (hk : cs.kind = .function)
    (N : News h₀ L s.heap (c.led ++ rest)) (hok : c.Ok PySem.Challenge.rw_rh0067_01.row.prog w n) (hn : n ≤ 3000) (hr : c.Off rest) (hx : c.x = x)
    (ret : ∀ (c' : SymSt) (bl : List (Addr × Obj)) (b e t d : Addr) (i : Int) (k0 : Tok) (h' : Heap) (tk' : Nat), c'.Ok PySem.Challenge.rw_rh0067_01.row.prog w (n + 3) → c.Le c' → Ball c' bl b → c'.Off (bl ++ rest) → (∀ p ∈ bl, ∀ q ∈ rest, q.1 ≠ p.1) →
      (∀ p ∈ (d, dictOf [⟨i, .str (Str.ofString "ball") k0, .ref b⟩] 1) :: (bl ++ (c'.led ++ rest)), p.1 ≠ e) → Fr h₀ L h' m → News h₀ L h' ((e, excD 51 t d) :: (d, dictOf [⟨i, .str (Str.ofString "ball") k0, .ref b⟩] 1) :: (bl ++ (c'.led ++ rest))) → Q (.ref e) { s with heap := h', toks := tk' }) :
    wpAny (model PySem.Challenge.rw_rh0067_01.row.prog w) (ktrTop 450 800 none cn cs L a ccd cl outer) (call (.ref 179) [.ref x, .str (Str.ofString "zero_divisor") tt]) Q E s := by
  k_with_none
  k_with "own mem" => assumption
  k_with "own aw" => first | exact away_lt (by assumption) | exact away_al (by assumption) | exact away_al (And.right (by assumption)) | exact away_al (And.right (And.right (by assumption))) | exact away_al (And.right (And.right (And.right (by assumption)))) | exact away_al (And.right (And.right (And.right (And.right (by assumption))))) | exact away_al (And.right (And.right (And.right (And.right (And.right (by assumption)))))) | exact away_al (And.right (And.right (And.right (And.right (And.right (And.right (by assumption))))))) | exact away_al (And.right (And.right (And.right (And.right (And.right (And.right (And.right (by assumption)))))))) | exact away_al (And.right (And.right (And.right (And.right (And.right (And.right (And.right (And.right (by assumption))))))))) | exact away_al (And.right (And.right (And.right (And.right (And.right (And.right (And.right (And.right (And.right (by assumption)))))))))) | exact away_al (And.right (And.right (And.right (And.right (And.right (And.right (And.right (And.right (And.right (And.right (by assumption))))))))))) | exact away_al (And.right (And.right (And.right (And.right (And.right (And.right (And.right (And.right (And.right (And.right (And.right (by assumption)))))))))))) | exact away_al (And.right (And.right (And.right (And.right (And.right (And.right (And.right (And.right (And.right (And.right (And.right (And.right (by assumption))))))))))))) | exact away_al (And.right (And.right (And.right (And.right (And.right (And.right (And.right (And.right (And.right (And.right (And.right (And.right (And.right (by assumption)))))))))))))) | exact away_al (And.right (And.right (And.right (And.right (And.right (And.right (And.right (And.right (And.right (And.right (And.right (And.right (And.right (And.right (by assumption))))))))))))))) | exact SymSt.Off.at (by assumption) (by k_mem)
  k_with "own re" => first | assumption | exact rest_lt (by assumption) | exact rest_al (by assumption) | exact rest_al (And.right (by assumption)) | exact rest_al (And.right (And.right (by assumption))) | exact rest_al (And.right (And.right (And.right (by assumption)))) | exact rest_al (And.right (And.right (And.right (And.right (by assumption))))) | exact rest_al (And.right (And.right (And.right (And.right (And.right (by assumption)))))) | exact rest_al (And.right (And.right (And.right (And.right (And.right (And.right (by assumption))))))) | exact rest_al (And.right (And.right (And.right (And.right (And.right (And.right (And.right (by assumption)))))))) | exact rest_al (And.right (And.right (And.right (And.right (And.right (And.right (And.right (And.right (by assumption))))))))) | exact rest_al (And.right (And.right (And.right (And.right (And.right (And.right (And.right (And.right (And.right (by assumption)))))))))) | exact rest_al (And.right (And.right (And.right (And.right (And.right (And.right (And.right (And.right (And.right (And.right (by assumption))))))))))) | exact rest_al (And.right (And.right (And.right (And.right (And.right (And.right (And.right (And.right (And.right (And.right (And.right (by assumption)))))))))))) | exact rest_al (And.right (And.right (And.right (And.right (And.right (And.right (And.right (And.right (And.right (And.right (And.right (And.right (by assumption))))))))))))) | exact rest_al (And.right (And.right (And.right (And.right (And.right (And.right (And.right (And.right (And.right (And.right (And.right (And.right (And.right (by assumption)))))))))))))) | exact rest_al (And.right (And.right (And.right (And.right (And.right (And.right (And.right (And.right (And.right (And.right (And.right (And.right (And.right (And.right (by assumption)))))))))))))))
  k_with "own all" => first | exact List.forall_mem_nil _ | assumption | exact all_app (by k_extra "own aw") (by k_extra "own re")
  k_with "own call ref" => ((with_reducible show wpAny _ _ (call (Value.ref 88) [Value.ref _, Value.str _ _]) _ _ _); k_dflt (refine' wpAny_wk ?zzw1 ?zzw2 ?zzw3 ?zzw4 ?zzw5 (atomP_spec _ _ _ _ _ _ _ _ _ _ _ _ _ _ _ _ _ _ _ _ _ _ ?zzB ?zzF ?zzX ?zzT ?zzhk ?zzN ?zzhok ?zzhpre ?zzhn ?zzhr ?zzhw ?zzhx ?_); (case zzB => k_asm); (case zzF => k_asm); (case zzN => k_asm); (case zzw3 => exact rfl); (case zzX => k_asm); (case zzT => k_asm); (case zzhk => first | exact rfl | assumption); (case zzw1 => exact rfl); (case zzw2 => exact Nat.le_of_ble_eq_true rfl); (case zzw4 => exact rfl); (case zzw5 => exact Nat.le_of_ble_eq_true rfl); (case zzhok => assumption); (case zzhpre => with_reducible first | exact Pre.c0 | exact Pre.c1 | exact Pre.c2 | exact Pre.c3 | exact Pre.c4 | exact Pre.c5 | exact Pre.c6 | exact Pre.c7 | exact Pre.c8 | exact Pre.c9 | exact Pre.c10 | exact Pre.c11 | exact Pre.c12 | exact Pre.c13 | exact Pre.c14 | exact Pre.c15); (case zzhn => omega); (case zzhr => assumption); (case zzhw => (repeat (first | exact trivial | (refine And.intro (by k_extra "own aw") ?_)))); (case zzhx => first | exact rfl | assumption)); intro _ _ _ _ _ _ _ _ _ _ _ _ _ _ N'; (simp only [List.cons_append, List.nil_append] at N'); (try dsimp only); (try k_sweep))
  k_with "own call ref" => ((with_reducible show wpAny _ _ (call (Value.ref 109) [Value.ref _, Value.str _ _, Value.int _ _]) _ _ _); k_dflt (refine' wpAny_wk ?zzw1 ?zzw2 ?zzw3 ?zzw4 ?zzw5 (funcP_spec _ _ _ _ _ _ _ _ _ _ _ _ _ _ _ _ _ _ _ _ _ _ _ _ ?zzB ?zzF ?zzX ?zzT ?zzhk ?zzN ?zzhok ?zzhpre ?zzhn ?zzhr ?zzhw ?zzhx ?_); (case zzB => k_asm); (case zzF => k_asm); (case zzN => k_asm); (case zzw3 => exact rfl); (case zzX => k_asm); (case zzT => k_asm); (case zzhk => first | exact rfl | assumption); (case zzw1 => exact rfl); (case zzw2 => exact Nat.le_of_ble_eq_true rfl); (case zzw4 => exact rfl); (case zzw5 => exact Nat.le_of_ble_eq_true rfl); (case zzhok => assumption); (case zzhpre => with_reducible first | exact Pre.c0 | exact Pre.c1 | exact Pre.c2 | exact Pre.c3 | exact Pre.c4 | exact Pre.c5 | exact Pre.c6 | exact Pre.c7 | exact Pre.c8 | exact Pre.c9 | exact Pre.c10 | exact Pre.c11 | exact Pre.c12 | exact Pre.c13 | exact Pre.c14 | exact Pre.c15); (case zzhn => omega); (case zzhr => assumption); (case zzhw => (repeat (first | exact trivial | (refine And.intro (by k_extra "own aw") ?_)))); (case zzhx => first | exact rfl | assumption)); intro _ _ _ _ _ _ _ _ _ _ _ _ _ _ _ _ _ N'; (simp only [List.cons_append, List.nil_append] at N'); (try dsimp only); (try k_sweep))
  k_with "own exec For Name Name cons nil" => (k_here; (rename Fr _ _ _ _ => lF'); (with_unfolding_all refine' For_invVF lF' ?zzk1 ?zzk2 ?_; (case zzk1 => exact rfl); (case zzk2 => exact rfl); k_whole))
  k_with "own pyIter ref" => ((with_reducible show wpAny _ _ (pyIter (Value.ref _)) (fun it s₂ => LoopAtV _ _ _ _ _ _ _ _ _ it s₂) _ _); k_dflt (refine' tup_one ?zzhh ?zzF ?zzN ?zzhl ?_; (case zzF => k_asm); (case zzN => k_asm); (case zzhh => exact rfl); (case zzhl => k_mem)); intro _ _ _ _ l1 _ _; (try k_lt l1); (try dsimp only); (try k_sweep))
  k_with "own UnrEnd" => (k_dflt (refine' unr_end ?zzF ?zzN ?zzhp ?zzoff ⟨?zzhm, ?_⟩; (case zzF => k_asm); (case zzN => k_asm); (case zzhp => with_reducible first | exact Pull.p0 | exact Pull.p1 | exact Pull.p2 | exact Pull.p3 | exact Pull.p4 | exact Pull.p5 | exact Pull.p6 | exact Pull.p7 | exact Pull.p8 | exact Pull.p9 | exact Pull.p10 | exact Pull.p11 | exact Pull.p12 | exact Pull.p13 | exact Pull.p14 | exact Pull.p15); (case zzoff => k_all); (case zzhm => k_mem)); intro _ _ _ _; (try dsimp only); (try k_sweep))
  have fin : ∀ (c' : SymSt) (e t d D0 D1 D2 D3 D4 D5 l D6 : Addr) (o0 o1 o2 : Obj) (hi ii f ai : Int) (k0 k1 k2 k3 k4 k5 k6 k7 k8 ta : Tok) (ka : Addr) (h' : Heap) (tk' : Nat), News h₀ L h' ((e, excD 51 t d) :: (d, dictOf [⟨hi, .str (Str.ofString "ball") k0, .ref D0⟩] 1) :: (t, o0) :: (D0, tupL [.str (Str.ofString "s") k1, .int 16 k2, .ref D1] 0) :: (D1, tupL [.ref D3, .ref D2] 0) :: (D2, tupL [.str (Str.ofString "a") k3, .int 25 k4] 0) ::
      (D3, tupL [.str (Str.ofString "s") k5, .int f k6, .ref D4] 0) :: (D4, tupL [.ref D5] 0) :: (D5, tupL [.str (Str.ofString "a") k7, .int ii k8] 0) :: (l, o1) :: (D6, o2) :: (c'.led ++ rest)) → Fr h₀ L h' m → c'.Ok PySem.Challenge.rw_rh0067_01.row.prog w (n + 3) → c.Le c' →
      atKey c'.xs [ai, 1] = some (ka, .int f k6) → valueAt c'.kvs (Str.ofString "evaluation_error") = some (.int ai ta) → valueAt c'.kvs (Str.ofString "zero_divisor") = some (.int ii k8) →
      (∀ p ∈ (d, dictOf [⟨hi, .str (Str.ofString "ball") k0, .ref D0⟩] 1) :: (t, o0) :: (D0, tupL [.str (Str.ofString "s") k1, .int 16 k2, .ref D1] 0) :: (D1, tupL [.ref D3, .ref D2] 0) :: (D2, tupL [.str (Str.ofString "a") k3, .int 25 k4] 0) ::
      (D3, tupL [.str (Str.ofString "s") k5, .int f k6, .ref D4] 0) :: (D4, tupL [.ref D5] 0) :: (D5, tupL [.str (Str.ofString "a") k7, .int ii k8] 0) :: (l, o1) :: (D6, o2) :: (c'.led ++ rest), p.1 ≠ e) →
      AwayAll c' (ballL D0 D1 D2 D3 D4 D5 ii f k1 k2 k3 k4 k5 k6 k7 k8) → c'.Off rest → (∀ p ∈ ballL D0 D1 D2 D3 D4 D5 ii f k1 k2 k3 k4 k5 k6 k7 k8, ∀ q ∈ rest, q.1 ≠ p.1) → Q (.ref e) { s with heap := h', toks := tk' } := by
    intro c' e t d D0 D1 D2 D3 D4 D5 l D6 o0 o1 o2 hi ii f ai k0 k1 k2 k3 k4 k5 k6 k7 k8 ta ka h' tk' N' F' hok' hle' hb3 hb2 hb1 hne hw hor hbr
    refine ret c' (ballL D0 D1 D2 D3 D4 D5 ii f k1 k2 k3 k4 k5 k6 k7 k8) D0 e t d hi k0 h' tk' hok' hle' ⟨_, _, _, _, _, _, _, _, _, _, _, _, _, _, _, _, _, _, rfl, hb1, hb2, hb3⟩ (hw.off hor) hbr (fun p hp => hne p ?_) F' (cb_drop N' fun p hp => ?_)
    · simp only [ballL, List.mem_cons, List.mem_append, List.not_mem_nil, or_false] at hp ⊢
      rcases hp with h | (h | h | h | h | h | h) | h | h <;> simp [h]
    · simp only [ballL, List.mem_cons, List.mem_append, List.not_mem_nil, or_false] at hp ⊢
      rcases hp with h | h | (h | h | h | h | h | h) | h | h <;> simp [h]
  have hxm : (x, instObj 154 c.dx) ∈ c.led ++ rest := by rw [← hx]; exact .head _
  revert X; k_fill; intro X
  refine wpAny_call ?_
  k_dflt cell_enter
  k_steps
  refine' call_excI PySem.F.excBase_Exception base_in PySem.F.excBase_Exception ?F ?X ?N ok51 init51 fn48 ?hl ?_
  (case F => k_asm)
  (case X => k_asm)
  (case N => k_asm)
  (case hl => exact Nat.succ_le_succ (Nat.zero_le _))
  intro e' t' h' F' N' l1 l3 l2
  (try k_lt l1)
  (try k_lt l3)
  (try k_lt2 l2)
  (try k_sweep)
  k_enter
  k_steps
  refine' store_excI (name := "ball") ?F ?X ?N ?ho set51 mro51 dict51 ball51 ?_
  (case F => k_asm)
  (case X => k_asm)
  (case N => k_asm)
  (case ho => k_all)
  intro d' h' tk' tk2' i' F' N' l1 l2
  (try k_lt l1)
  (try k_lt2 l2)
  (try k_sweep)
  k_steps
  refine' fin _ _ _ _ _ _ _ _ _ _ _ _ _ _ _ _ _ _ _ _ _ _ _ _ _ _ _ _ _ _ _ _ ?hN ?hF ?hok ?hle ?hb3 ?hb2 ?hb1 ?hne ?hw ?hor ?hbr
  (case hN => assumption)
  (case hF => assumption)
  (case hok => assumption)
  (case hb3 => assumption)
  (case hb2 => assumption)
  (case hb1 => exact SymSt.Le.km (by assumption) _ _ (by assumption))
  (case hle => exact SymSt.Le.trans (by assumption) (by assumption))
  (case hne => k_all)
  (case hw => (repeat (first | exact trivial | (refine And.intro (by k_extra "own aw") ?_))))
  (case hor => assumption)
  (case hbr => exact ballL_rest (by first | exact rest_lt (by with_reducible assumption) | exact rest_al (by with_reducible assumption) | exact rest_al (And.right (by with_reducible assumption)) | exact rest_al (And.right (And.right (by with_reducible assumption))) | exact rest_al (And.right (And.right (And.right (by with_reducible assumption)))) | exact rest_al (And.right (And.right (And.right (And.right (by with_reducible assumption))))) | exact rest_al (And.right (And.right (And.right (And.right (And.right (by with_reducible assumption)))))) | exact rest_al (And.right (And.right (And.right (And.right (And.right (And.right (by with_reducible assumption))))))) | exact rest_al (And.right (And.right (And.right (And.right (And.right (And.right (And.right (by with_reducible assumption)))))))) | exact rest_al (And.right (And.right (And.right (And.right (And.right (And.right (And.right (And.right (by with_reducible assumption))))))))) | exact rest_al (And.right (And.right (And.right (And.right (And.right (And.right (And.right (And.right (And.right (by with_reducible assumption)))))))))) | exact rest_al (And.right (And.right (And.right (And.right (And.right (And.right (And.right (And.right (And.right (And.right (by with_reducible assumption))))))))))) | exact rest_al (And.right (And.right (And.right (And.right (And.right (And.right (And.right (And.right (And.right (And.right (And.right (by with_reducible assumption)))))))))))) | exact rest_al (And.right (And.right (And.right (And.right (And.right (And.right (And.right (And.right (And.right (And.right (And.right (And.right (by with_reducible assumption))))))))))))) | exact rest_al (And.right (And.right (And.right (And.right (And.right (And.right (And.right (And.right (And.right (And.right (And.right (And.right (And.right (by with_reducible assumption)))))))))))))) | exact rest_al (And.right (And.right (And.right (And.right (And.right (And.right (And.right (And.right (And.right (And.right (And.right (And.right (And.right (And.right (by with_reducible assumption))))))))))))))) | exact rest_al (And.right (And.right (And.right (And.right (And.right (And.right (And.right (And.right (And.right (And.right (And.right (And.right (And.right (And.right (And.right (by with_reducible assumption))))))))))))))))) (by first | exact rest_lt (by with_reducible assumption) | exact rest_al (by with_reducible assumption) | exact rest_al (And.right (by with_reducible assumption)) | exact rest_al (And.right (And.right (by with_reducible assumption))) | exact rest_al (And.right (And.right (And.right (by with_reducible assumption)))) | exact rest_al (And.right (And.right (And.right (And.right (by with_reducible assumption))))) | exact rest_al (And.right (And.right (And.right (And.right (And.right (by with_reducible assumption)))))) | exact rest_al (And.right (And.right (And.right (And.right (And.right (And.right (by with_reducible assumption))))))) | exact rest_al (And.right (And.right (And.right (And.right (And.right (And.right (And.right (by with_reducible assumption)))))))) | exact rest_al (And.right (And.right (And.right (And.right (And.right (And.right (And.right (And.right (by with_reducible assumption))))))))) | exact rest_al (And.right (And.right (And.right (And.right (And.right (And.right (And.right (And.right (And.right (by with_reducible assumption)))))))))) | exact rest_al (And.right (And.right (And.right (And.right (And.right (And.right (And.right (And.right (And.right (And.right (by with_reducible assumption))))))))))) | exact rest_al (And.right (And.right (And.right (And.right (And.right (And.right (And.right (And.right (And.right (And.right (And.right (by with_reducible assumption)))))))))))) | exact rest_al (And.right (And.right (And.right (And.right (And.right (And.right (And.right (And.right (And.right (And.right (And.right (And.right (by with_reducible assumption))))))))))))) | exact rest_al (And.right (And.right (And.right (And.right (And.right (And.right (And.right (And.right (And.right (And.right (And.right (And.right (And.right (by with_reducible assumption)))))))))))))) | exact rest_al (And.right (And.right (And.right (And.right (And.right (And.right (And.right (And.right (And.right (And.right (And.right (And.right (And.right (And.right (by with_reducible assumption))))))))))))))) | exact rest_al (And.right (And.right (And.right (And.right (And.right (And.right (And.right (And.right (And.right (And.right (And.right (And.right (And.right (And.right (And.right (by with_reducible assumption))))))))))))))))) (by first | exact rest_lt (by with_reducible assumption) | exact rest_al (by with_reducible assumption) | exact rest_al (And.right (by with_reducible assumption)) | exact rest_al (And.right (And.right (by with_reducible assumption))) | exact rest_al (And.right (And.right (And.right (by with_reducible assumption)))) | exact rest_al (And.right (And.right (And.right (And.right (by with_reducible assumption))))) | exact rest_al (And.right (And.right (And.right (And.right (And.right (by with_reducible assumption)))))) | exact rest_al (And.right (And.right (And.right (And.right (And.right (And.right (by with_reducible assumption))))))) | exact rest_al (And.right (And.right (And.right (And.right (And.right (And.right (And.right (by with_reducible assumption)))))))) | exact rest_al (And.right (And.right (And.right (And.right (And.right (And.right (And.right (And.right (by with_reducible assumption))))))))) | exact rest_al (And.right (And.right (And.right (And.right (And.right (And.right (And.right (And.right (And.right (by with_reducible assumption)))))))))) | exact rest_al (And.right (And.right (And.right (And.right (And.right (And.right (And.right (And.right (And.right (And.right (by with_reducible assumption))))))))))) | exact rest_al (And.right (And.right (And.right (And.right (And.right (And.right (And.right (And.right (And.right (And.right (And.right (by with_reducible assumption)))))))))))) | exact rest_al (And.right (And.right (And.right (And.right (And.right (And.right (And.right (And.right (And.right (And.right (And.right (And.right (by with_reducible assumption))))))))))))) | exact rest_al (And.right (And.right (And.right (And.right (And.right (And.right (And.right (And.right (And.right (And.right (And.right (And.right (And.right (by with_reducible assumption)))))))))))))) | exact rest_al (And.right (And.right (And.right (And.right (And.right (And.right (And.right (And.right (And.right (And.right (And.right (And.right (And.right (And.right (by with_reducible assumption))))))))))))))) | exact rest_al (And.right (And.right (And.right (And.right (And.right (And.right (And.right (And.right (And.right (And.right (And.right (And.right (And.right (And.right (And.right (by with_reducible assumption))))))))))))))))) (by first | exact rest_lt (by with_reducible assumption) | exact rest_al (by with_reducible assumption) | exact rest_al (And.right (by with_reducible assumption)) | exact rest_al (And.right (And.right (by with_reducible assumption))) | exact rest_al (And.right (And.right (And.right (by with_reducible assumption)))) | exact rest_al (And.right (And.right (And.right (And.right (by with_reducible assumption))))) | exact rest_al (And.right (And.right (And.right (And.right (And.right (by with_reducible assumption)))))) | exact rest_al (And.right (And.right (And.right (And.right (And.right (And.right (by with_reducible assumption))))))) | exact rest_al (And.right (And.right (And.right (And.right (And.right (And.right (And.right (by with_reducible assumption)))))))) | exact rest_al (And.right (And.right (And.right (And.right (And.right (And.right (And.right (And.right (by with_reducible assumption))))))))) | exact rest_al (And.right (And.right (And.right (And.right (And.right (And.right (And.right (And.right (And.right (by with_reducible assumption)))))))))) | exact rest_al (And.right (And.right (And.right (And.right (And.right (And.right (And.right (And.right (And.right (And.right (by with_reducible assumption))))))))))) | exact rest_al (And.right (And.right (And.right (And.right (And.right (And.right (And.right (And.right (And.right (And.right (And.right (by with_reducible assumption)))))))))))) | exact rest_al (And.right (And.right (And.right (And.right (And.right (And.right (And.right (And.right (And.right (And.right (And.right (And.right (by with_reducible assumption))))))))))))) | exact rest_al (And.right (And.right (And.right (And.right (And.right (And.right (And.right (And.right (And.right (And.right (And.right (And.right (And.right (by with_reducible assumption)))))))))))))) | exact rest_al (And.right (And.right (And.right (And.right (And.right (And.right (And.right (And.right (And.right (And.right (And.right (And.right (And.right (And.right (by with_reducible assumption))))))))))))))) | exact rest_al (And.right (And.right (And.right (And.right (And.right (And.right (And.right (And.right (And.right (And.right (And.right (And.right (And.right (And.right (And.right (by with_reducible assumption))))))))))))))))) (by first | exact rest_lt (by with_reducible assumption) | exact rest_al (by with_reducible assumption) | exact rest_al (And.right (by with_reducible assumption)) | exact rest_al (And.right (And.right (by with_reducible assumption))) | exact rest_al (And.right (And.right (And.right (by with_reducible assumption)))) | exact rest_al (And.right (And.right (And.right (And.right (by with_reducible assumption))))) | exact rest_al (And.right (And.right (And.right (And.right (And.right (by with_reducible assumption)))))) | exact rest_al (And.right (And.right (And.right (And.right (And.right (And.right (by with_reducible assumption))))))) | exact rest_al (And.right (And.right (And.right (And.right (And.right (And.right (And.right (by with_reducible assumption)))))))) | exact rest_al (And.right (And.right (And.right (And.right (And.right (And.right (And.right (And.right (by with_reducible assumption))))))))) | exact rest_al (And.right (And.right (And.right (And.right (And.right (And.right (And.right (And.right (And.right (by with_reducible assumption)))))))))) | exact rest_al (And.right (And.right (And.right (And.right (And.right (And.right (And.right (And.right (And.right (And.right (by with_reducible assumption))))))))))) | exact rest_al (And.right (And.right (And.right (And.right (And.right (And.right (And.right (And.right (And.right (And.right (And.right (by with_reducible assumption)))))))))))) | exact rest_al (And.right (And.right (And.right (And.right (And.right (And.right (And.right (And.right (And.right (And.right (And.right (And.right (by with_reducible assumption))))))))))))) | exact rest_al (And.right (And.right (And.right (And.right (And.right (And.right (And.right (And.right (And.right (And.right (And.right (And.right (And.right (by with_reducible assumption)))))))))))))) | exact rest_al (And.right (And.right (And.right (And.right (And.right (And.right (And.right (And.right (And.right (And.right (And.right (And.right (And.right (And.right (by with_reducible assumption))))))))))))))) | exact rest_al (And.right (And.right (And.right (And.right (And.right (And.right (And.right (And.right (And.right (And.right (And.right (And.right (And.right (And.right (And.right (by with_reducible assumption))))))))))))))))) (by first | exact rest_lt (by with_reducible assumption) | exact rest_al (by with_reducible assumption) | exact rest_al (And.right (by with_reducible assumption)) | exact rest_al (And.right (And.right (by with_reducible assumption))) | exact rest_al (And.right (And.right (And.right (by with_reducible assumption)))) | exact rest_al (And.right (And.right (And.right (And.right (by with_reducible assumption))))) | exact rest_al (And.right (And.right (And.right (And.right (And.right (by with_reducible assumption)))))) | exact rest_al (And.right (And.right (And.right (And.right (And.right (And.right (by with_reducible assumption))))))) | exact rest_al (And.right (And.right (And.right (And.right (And.right (And.right (And.right (by with_reducible assumption)))))))) | exact rest_al (And.right (And.right (And.right (And.right (And.right (And.right (And.right (And.right (by with_reducible assumption))))))))) | exact rest_al (And.right (And.right (And.right (And.right (And.right (And.right (And.right (And.right (And.right (by with_reducible assumption)))))))))) | exact rest_al (And.right (And.right (And.right (And.right (And.right (And.right (And.right (And.right (And.right (And.right (by with_reducible assumption))))))))))) | exact rest_al (And.right (And.right (And.right (And.right (And.right (And.right (And.right (And.right (And.right (And.right (And.right (by with_reducible assumption)))))))))))) | exact rest_al (And.right (And.right (And.right (And.right (And.right (And.right (And.right (And.right (And.right (And.right (And.right (And.right (by with_reducible assumption))))))))))))) | exact rest_al (And.right (And.right (And.right (And.right (And.right (And.right (And.right (And.right (And.right (And.right (And.right (And.right (And.right (by with_reducible assumption)))))))))))))) | exact rest_al (And.right (And.right (And.right (And.right (And.right (And.right (And.right (And.right (And.right (And.right (And.right (And.right (And.right (And.right (by with_reducible assumption))))))))))))))) | exact rest_al (And.right (And.right (And.right (And.right (And.right (And.right (And.right (And.right (And.right (And.right (And.right (And.right (And.right (And.right (And.right (by with_reducible assumption))))))))))))))))))
end Mine
end
theorem Mine.calm_B22 : True ∧ True := by
  w_top off
  k_with_none
  (try walk1)
  all_goals trivial
section
open PySem PySem.W PySem.Calls PySem.Spec PyProof.Rows
namespace Mine
abbrev excV (C d : Addr) (vs : Array Value) (sl : Array (Option Value)) : Obj := { cls := .ref C, dict := some d, data := .fields vs, slots := sl }
def TrD (h base : Heap) (e C d : Addr) (fl : Value) : Prop :=
  ∃ vs sl T oT ts, h.get? e = some (excV C d vs sl) ∧ vs[1]? = some (.ref T) ∧ base.get? T = none ∧ T ≠ e ∧ h.get? T = some oT ∧ oT.data = .fields ts ∧ ts[3]? = some fl
def FlyD (base : Heap) (l : List Env) (e C d : Addr) (fl : Value) (h : Heap) : Prop :=
  base.StaysIn h ∧ base.get? e = none ∧ h.FunFrames base l ∧ TrD h base e C d fl
section
variable {M : Model} {A : Around} {E : Value → Shared → Prop} {s : Shared} {base : Heap} {env : Env} {outer : List Env} {L e C d : Addr} {vs : Array Value} {sl : Array (Option Value)}
theorem entryD {head : Value} {hadNext : Bool} {Q : Unit → Shared → Prop} (hfr : A.frames = some (env :: outer)) (hl : s.heap.FunFrames base (env :: outer)) (hf : env.frame = some L)
    (he : s.heap.get? e = some (excV C d vs sl)) (hkb : base.StaysIn s.heap) (hen : base.get? e = none) (hsz : 1 < vs.size)
    (h : ∀ h', FlyD base (env :: outer) e C d (rawInt L) h' → s.heap.UpToSlots h' → Q () { s with heap := h' }) :
    wpAny M A (do let a ← frameOf env; let pl ← entryPlaceOf L hadNext; let b ← EntryCells.newEntry head a .none (rawInt L) .none pl; setField (.ref e) 1 b) Q E s := by
  have notRec : ∀ b o, s.heap.get? b = some o → (∀ vs, o.data ≠ .fields vs) → b ≠ e := fun b o hb hn q => hn vs (by rw [q, he] at hb; cases hb; rfl)
  have hne : e ∉ (env :: outer).filterMap (·.frame) := fun hm => by
    obtain ⟨_, o, ho, hn⟩ := hl.mem hm
    exact notRec e o ho hn rfl
  refine wpAny_bind (wpAny_frameOf_fun hfr hl hf fun h₁ hs => wpAny_bind (wpAny_entryPlaceOf fun pl hpl => ?_))
  unfold EntryCells.newEntry newFields
  refine wpAny_bind (wpAny_newObj_type ?_ (hpl.sizeOk5 _ _ _ _ _))
  generalize hcells : ([head, Value.ref L, Value.none, rawInt L, Value.none] ++ (if pl.isEmpty then List.replicate 6 Value.none else pl)).toArray = cells
  have h3 : cells[3]? = some (rawInt L) := by rw [← hcells]; simp
  have he₁ : h₁.get? e = some (excV C d vs sl) := (hs.2.1 e hne).trans he
  have kb : base.StaysIn h₁ := fun b o q => (hs.2.1 b fun hm => by rw [(hl.mem hm).1] at q; cases q).trans (hkb b o q)
  have hTe : h₁.objs.size ≠ e := Nat.ne_of_gt (Heap.lt_size he₁)
  have he₂ := Heap.get?_push_of_some (h := h₁) { cls := .type "traceback", dict := none, data := .fields cells } he₁
  refine wpAny_setField he₂ rfl hsz (h _ ⟨fun b o q => ?_, hen, hl.of_keeps fun b o hb hn => ?_, ?_⟩ fun b o hb hn => ?_)
  · exact (Heap.get?_update_other _ _ (fun z => by rw [z, q] at hen; cases hen)).trans (Heap.get?_push_of_some _ (kb b o q))
  · obtain ⟨sl', hs'⟩ := hs.2.2 b o hb
    exact ⟨_, (Heap.get?_update_other _ _ (notRec b o hb hn).symm).trans (Heap.get?_push_of_some _ hs'), rfl⟩
  · refine ⟨vs.setIfInBounds 1 (.ref h₁.objs.size), sl, h₁.objs.size, { cls := .type "traceback", dict := none, data := .fields cells }, cells, Heap.get?_update_self _ he₂ rfl, by simp [hsz], kb.fresh, hTe, ?_, rfl, h3⟩
    exact (Heap.get?_update_other _ _ hTe.symm).trans (Heap.get?_push_size h₁ rfl)
  · obtain ⟨sl', hs'⟩ := hs.2.2 b o hb
    exact ⟨sl', (Heap.get?_update_other _ _ (notRec b o hb hn).symm).trans (Heap.get?_push_of_some _ hs')⟩
theorem note_first {Q : Unit → Shared → Prop} (hfr : A.frames = some (env :: outer)) (hl : s.heap.FunFrames base (env :: outer)) (hf : env.frame = some L)
    (he : s.heap.get? e = some (excV C d vs sl)) (hkb : base.StaysIn s.heap) (hen : base.get? e = none) (h1 : vs[1]? = some .none)
    (h : ∀ h', FlyD base (env :: outer) e C d (rawInt L) h' → s.heap.UpToSlots h' → Q () { s with heap := h' }) : wpAny M A (noteFrame (.ref e) env) Q E s := by
  unfold noteFrame
  simp only [hf]
  refine wpAny_bind (wpAny_field he rfl h1 ?_)
  rw [if_neg (by decide)]
  exact entryD hfr hl hf he hkb hen (Array.getElem?_eq_some_iff.mp h1).1 h
theorem flight_set {Q : Unit → Shared → Prop} {fl : Value} (T : TrD s.heap base e C d fl) (v : Value)
    (h : ∀ T oT ts, s.heap.get? T = some oT → oT.data = .fields ts → 3 < ts.size → (∀ b, b ≠ T → (s.heap.update T (Obj.mapFields (·.setIfInBounds 3 v))).get? b = s.heap.get? b) → base.get? T = none →
      TrD (s.heap.update T (Obj.mapFields (·.setIfInBounds 3 v))) base e C d v → Q () { s with heap := s.heap.update T (Obj.mapFields (·.setIfInBounds 3 v)) }) :
    ∃ vs sl T, s.heap.get? e = some (excV C d vs sl) ∧ vs[1]? = some (.ref T) ∧ (∃ oT ts, s.heap.get? T = some oT ∧ oT.data = .fields ts ∧ ts[3]? = some fl) ∧ wpAny M A (setField (.ref T) 3 v) Q E s := by
  obtain ⟨vs, sl, T, oT, ts, he, h1, hnT, hTe, hT, hdT, h3⟩ := T
  have h3s := (Array.getElem?_eq_some_iff.mp h3).1
  refine ⟨vs, sl, T, he, h1, ⟨oT, ts, hT, hdT, h3⟩, wpAny_setField hT hdT h3s (h T oT ts hT hdT h3s (fun b hb => Heap.get?_update_other _ _ hb.symm) hnT ?_)⟩
  exact ⟨vs, sl, T, _, _, (Heap.get?_update_other _ _ hTe).trans he, h1, hnT, hTe, Heap.get?_update_self _ hT (Obj.isFreed_of_fields (Obj.data_mapFields hdT _)), Obj.data_mapFields hdT _, by simp [h3s]⟩
theorem fly_upd {l : List Env} {h : Heap} {T : Addr} {oT : Obj} {ts : Array Value} {fl v : Value} {f : Obj → Obj} (x : FlyD base l e C d fl h) (hT : h.get? T = some oT) (hdT : oT.data = .fields ts) (hnT : base.get? T = none)
    (other : ∀ b, b ≠ T → (h.update T f).get? b = h.get? b) (t : TrD (h.update T f) base e C d v) : FlyD base l e C d v (h.update T f) ∧ h.UpToSlots (h.update T f) := by
  obtain ⟨k, en, fr, _⟩ := x
  have nr : ∀ b o, h.get? b = some o → (∀ vs, o.data ≠ .fields vs) → b ≠ T := fun b o hb hn q => hn ts (by rw [q, hT] at hb; cases hb; exact hdT)
  exact ⟨⟨fun b o q => (other b fun z => by rw [z, hnT] at q; cases q).trans (k b o q), en, fr.of_keeps fun b o hb hn => ⟨o, (other b (nr b o hb hn)).trans hb, rfl⟩, t⟩, fun b o hb hn => ⟨o.slots, (other b (nr b o hb hn)).trans hb⟩⟩
theorem land_D {l : List Env} {fl : Value} {Q : Unit → Shared → Prop} (x : FlyD base l e C d fl s.heap) (hQ : ∀ h', FlyD base l e C d .none h' → s.heap.UpToSlots h' → Q () { s with heap := h' }) : wpAny M A (setFlight (.ref e) none) Q E s := by
  obtain ⟨vs, sl, T, he, h1, -, hw⟩ := flight_set (M := M) (A := A) (E := E) (Q := Q) x.2.2.2 .none fun T oT ts hT hd _ other hn t => (fun y => hQ _ y.1 y.2) (fly_upd x hT hd hn other t)
  unfold setFlight
  refine wpAny_bind (wpAny_field he rfl h1 ?_)
  rw [if_pos (by simp)]
  exact hw
theorem note_on {Q : Unit → Shared → Prop} (hfr : A.frames = some (env :: outer)) (hf : env.frame = some L) (x : FlyD base (env :: outer) e C d .none s.heap)
    (h : ∀ h', FlyD base (env :: outer) e C d (rawInt L) h' → s.heap.UpToSlots h' → Q () { s with heap := h' }) : wpAny M A (noteFrame (.ref e) env) Q E s := by
  have P := flight_set (M := M) (A := A) (E := E) (s := s) (Q := fun _ s' => wpAny M A (do let a ← frameOf env; let pl ← entryPlaceOf L true; let b ← EntryCells.newEntry (s.heap.get? e |>.elim .none fun o => match o.data with | .fields vs => vs[1]?.getD .none | _ => .none) a .none (rawInt L) .none pl; setField (.ref e) 1 b) Q E s') x.2.2.2 .none
    fun T oT ts hT hd _ other hn t => by
      obtain ⟨y, u⟩ := fly_upd x hT hd hn other t
      obtain ⟨vs, sl, T', oT', ts', he', h1', _⟩ := y.2.2.2
      exact entryD (s := { s with heap := _ }) hfr y.2.2.1 hf he' y.1 y.2.1 (Array.getElem?_eq_some_iff.mp h1').1 fun h' z u' => h h' z (u.trans u')
  obtain ⟨vs, sl, T, he, h1, ⟨oT, ts, hT, hdT, h3⟩, hw⟩ := P
  have hhead : (s.heap.get? e |>.elim Value.none fun o => match o.data with | .fields vs => vs[1]?.getD .none | _ => .none) = .ref T := by rw [he]; simp [h1]
  rw [hhead] at hw
  unfold noteFrame
  simp only [hf]
  refine wpAny_bind (wpAny_field he rfl h1 ?_)
  rw [if_pos (by simp)]
  refine wpAny_bind (wpAny_field hT hdT h3 ?_)
  rw [if_neg (by simp [rawInt])]
  exact wpAny_bind hw
end
end Mine
end
theorem Mine.calm_B23 : True ∧ True := by
  w_top off
  k_with_none
  (try walk1)
  all_goals trivial
section
open PySem PySem.W PySem.Calls PySem.Spec PyProof.Rows
namespace Mine
def RaisedD (base G : Heap) (l : List Env) (e C d : Addr) (news : List (Addr × Obj)) (h : Heap) : Prop :=
  ∃ B, base.StaysIn B ∧ (∀ b o, G.get? b = some o → b ∉ l.filterMap (·.frame) → B.get? b = some o) ∧ (∀ q ∈ news, B.get? q.1 = some q.2 ∧ G.get? q.1 = none ∧ base.get? q.1 = none) ∧ G.get? e = none ∧ FlyD B l e C d .none h
section
variable {M : Model} {A : Around} {E : Value → Shared → Prop} {s' : Shared} {base g : Heap} {outer : List Env} {L a e C d t : Addr} {m : Str → Option Value} {name : Str} {scope : Scope} {cd : Value} {Q : Unit → Shared → Prop} {news : List (Addr × Obj)}
theorem leave_raiseD (K : Below A base outer g) (F : Fr g L s'.heap m) (N : News g L s'.heap ((e, excD C t d) :: news)) (hne : ∀ p ∈ news, p.1 ≠ e)
    (hQ : ∀ h', RaisedD base g outer e C d news h' → g.UpToSlots h' → Q () { s' with heap := h' }) (hk : scope.kind = .function := by rfl) :
    wpAny M (A.deeper (envOf name scope L a cd)) (leaving (envOf name scope L a cd) (.ref e)) Q E s' := by
  have K' := K.push (name := name) (a := a) (cd := cd) F hk
  generalize has : e :: (envOf name scope L a cd :: outer).filterMap (·.frame) = as
  have hin : ∀ env ∈ (envOf name scope L a cd :: outer), ∀ b, env.frame = some b → b ∈ as := fun env he b hb => by rw [← has]; exact .tail _ (List.mem_filterMap.mpr ⟨env, he, hb⟩)
  have hE := N _ (.head _)
  have off : ∀ b, g.get? b = none → b ≠ L → b ≠ e → b ∉ as := fun b hg hL hbe hm => by
    rw [← has] at hm
    rcases List.mem_cons.mp hm with q | hm
    · exact hbe q
    · obtain ⟨env, he, hf⟩ := List.mem_filterMap.mp hm
      rcases List.mem_cons.mp he with rfl | he
      · exact hL (Option.some.inj hf).symm
      · obtain ⟨o, ho, _⟩ := (K.frames.mem (List.mem_filterMap.mpr ⟨env, he, hf⟩)).2
        rw [hg] at ho; cases ho
  have st : base.StaysIn (hideAll s'.heap as) := fun b o q => hideAll_get _ (K'.stays b o q) fun hm => by
    rw [← has] at hm
    rcases List.mem_cons.mp hm with z | hm
    · rw [z] at q
      have := K.stays _ _ q
      rw [hE.2.2] at this; cases this
    · rw [(K'.frames.mem hm).1] at q; cases q
  have hl : ∀ q ∈ news, (hideAll s'.heap as).get? q.1 = some q.2 ∧ g.get? q.1 = none ∧ base.get? q.1 = none := fun q hq => by
    have hq' := N q (.tail _ hq)
    exact ⟨hideAll_get _ hq'.1 (off _ hq'.2.2 hq'.2.1 (hne q hq)), hq'.2.2, fresh_of_stays K.stays hq'.2.2⟩
  have sg : ∀ b o, g.get? b = some o → b ∉ outer.filterMap (·.frame) → (hideAll s'.heap as).get? b = some o := fun b o q nm => hideAll_get _ (F.keep b o q) fun hm => by
    rw [← has] at hm
    rcases List.mem_cons.mp hm with z | hm
    · rw [z, hE.2.2] at q; cases q
    · rcases kts_mem hm with z | z
      · rw [z, kts_self F] at q; cases q
      · exact nm z
  have hen : (hideAll s'.heap as).get? e = none := hideAll_none _ (by rw [← has]; exact .head _)
  unfold leaving
  refine wpAny_bind (note_first K'.stack (funFrames_hide K'.frames hin) rfl hE.1 (fun b o q => of_hideAll _ q) hen rfl fun h₁ x₁ u₁ => ?_)
  refine land_D x₁ fun h₂ x₂ u₂ => ?_
  obtain ⟨k1, k2, ⟨_, _, k3⟩, k4⟩ := x₂
  exact hQ h₂ ⟨_, st, sg, hl, hE.2.2, k1, k2, k3, k4⟩ ((Heap.UpToSlots.of_keeps F.keep).trans (u₁.trans u₂))
end
section
variable {prog : Program} {w : World} {A : Around} {E : Value → Shared → Prop} {s : Shared} {env : Env} {C t d a : Addr} {bmB : List Value} {newId : String}
def RaisableO (C : Addr) (bmB : List Value) (newId : String) (E : Value → Shared → Prop) (v : Value) (s₁ : Shared) : Prop := ∃ a t d, v = .ref a ∧ s₁.heap.get? a = some (excD C t d) ∧ ExcOk s₁.heap C bmB newId ∧ E (.ref a) s₁
theorem raisableO {K : Frag} {h₀ : Heap} {L a C t d : Addr} {m : Str → Option Value} {bmB : List Value} {newId : String} {E : Value → Shared → Prop} {s₁ : Shared} {news : List (Addr × Obj)} (F : Fr h₀ L s₁.heap m) (X₀ : K.In h₀) (q : excOk K C bmB newId = true)
    (N : News h₀ L s₁.heap ((a, excD C t d) :: news)) (hE : E (.ref a) s₁) : RaisableO C bmB newId E (.ref a) s₁ := ⟨a, t, d, rfl, (N _ (.head _)).1, excOk_of (X₀.keeps F.keep) q, hE⟩
theorem Raise_own3 {e₀ : Expr} {pos : Pos} {Q : Flow → Shared → Prop} (hh : A.handled = none) (hbase : bmB.contains (.type "BaseException") = true)
    (h : wpAny (model prog w) A (eval e₀ env) (RaisableO C bmB newId E) E s) :
    wpAny (model prog w) A (exec (.Raise (some e₀) none pos) env) Q E s := by
  show wpAny _ A (do standAt pos; raiseStmt env (some (do let v ← eval e₀ env; standAt pos; pure v)) none) Q E s
  refine wpAny_bind (wpAny_standAt ?_)
  unfold raiseStmt
  dsimp only
  refine wpAny_bind (wpAny_bind (wpAny_mono h (fun v s₁ h₁ => wpAny_bind (wpAny_standAt (wpAny_pure ?_))) fun _ _ x => x))
  obtain ⟨a, t, d, rfl, ha, ⟨bm, N, nm, q, bs, sn, sub, ab, col, dd, k0, k1, k2, k3, k5, hC, T⟩, hE⟩ := h₁
  have hcB : (Value.ref C :: bm).contains (.type "BaseException") = true := by rw [List.contains_cons, T.hasType hbase, Bool.or_true]
  obtain ⟨hp, g, dr, tk, os⟩ := s₁
  repeat (first | with_reducible refine wpAny_loadPart_at ha ?_ | with_reducible refine wpAny_loadPart_at hC ?_ | (with_reducible refine wpAny_isSubtype_exc hC ?_; rw [hcB]) | wp_step)
  exact wpAny_raiseNew_none hh hE
end
section
variable {prog : Program} {w : World} {A₀ : Around} {E : Value → Shared → Prop} {s' : Shared} {base g₀ g G : Heap} {outer : List Env} {L a e C d : Addr} {m : Str → Option Value} {name : Str} {scope : Scope} {cd : Value}
  {n : Str} {b₀ : Stmt} {suite : List Stmt} {pos np : Pos} {rest : List ExceptHandler} {Q : Flow → Shared → Prop} {news : List (Addr × Obj)} {KF : Frag} {bmB : List Value} {newId : String}
  {p : Program} {loose : List Str} {mean : ExcName → Option Value} {mg mb : Str → Option Value} {x : Str}
theorem caught_D (R : RaisedD base G (envOf name scope L a cd :: outer) e C d news s'.heap) (F : Fr g L G m) (K : Below A₀ base outer g) (hsm : G.UpToSlots s'.heap) (XB : KF.In base) (TB : Top p loose mean mg mb base)
    (D : KtsDicts (outer.filterMap (·.frame)) g) (T0 : KtsTurn (outer.filterMap (·.frame)) g₀ g) (ex : nsIn KF mainGlobals x = some (some (.ref C))) (q : excOk KF C bmB newId = true) (hbase : bmB.contains (.type "BaseException") = true)
    (k : ∀ h' g' vs sl tk, KtsTurn (outer.filterMap (·.frame)) g₀ g' → Fr g' L h' (fun y => if y = n then some (.ref e) else m y) → News g' L h' ((e, excV C d vs sl) :: news) → Below A₀ base outer g' → KF.In g' → Top p loose mean mg mb g' → KtsDicts (outer.filterMap (·.frame)) g' →
      wpAny (model prog w) ((A₀.deeper (envOf name scope L a cd)).mark (some (.ref e))) (execs (b₀ :: suite) (envOf name scope L a cd))
        (fun f s₄ => wpAny (model prog w) (A₀.deeper (envOf name scope L a cd)) (do bindName (envOf name scope L a cd) n .none; unbindBehindTheSuite (envOf name scope L a cd) n pos) (fun _ s₅ => Q f s₅) E s₄)
        (AsSuiteRaised (model prog w) ((A₀.deeper (envOf name scope L a cd)).mark (some (.ref e))) (envOf name scope L a cd) n pos (notedBy (model prog w) ((A₀.deeper (envOf name scope L a cd)).mark (some (.ref e))) (envOf name scope L a cd) (cameBackBy (model prog w) (A₀.deeper (envOf name scope L a cd)) (envOf name scope L a cd) E)))
        { s' with heap := h', toks := tk })
    (hk : scope.kind = .function := by rfl) (hlo : (envOf name scope L a cd).kindOf n = some .local := by rfl) (hx : (envOf name scope L a cd).kindOf x = some .globalImplicit := by rfl) (hd : (x == ("__debug__" : Str)) = false := by decide) :
    wpAny (model prog w) (A₀.deeper (envOf name scope L a cd)) (noteFrame (.ref e) (envOf name scope L a cd))
      (fun _ s₂ => wpAny (model prog w) (A₀.deeper (envOf name scope L a cd)) (setFlight (.ref e) none) (fun _ s₃ =>
        wpAny (model prog w) (A₀.deeper (envOf name scope L a cd)) (handleBy (.ref e) (envOf name scope L a cd) (.ExceptHandler (some (.Name x np)) (some n) (b₀ :: suite) pos :: rest)) Q E s₃) E s₂) E s' := by
  obtain ⟨B, hB, hBG, hl, hGe, hfl⟩ := R
  have hL : B.get? L = none := by
    obtain ⟨_, ⟨L', _, hf, hn', _⟩, _⟩ := hfl.2.2.1
    obtain rfl : L = L' := Option.some.inj hf
    exact hn'
  refine note_on (Around.frames_deeper K.stack) rfl hfl fun h₄ y₄ u₄ => land_D y₄ fun h₅ y₅ u₅ => ?_
  have hsm₅ := hsm.trans (u₄.trans u₅)
  obtain ⟨g₅, T₅, F₅, K₅⟩ := kts_ground K F hBG y₅.1 hsm₅
  have X₅ : KF.In g₅ := XB.keeps K₅.stays
  obtain ⟨bm, N, nm, q', bs, sn, sub, ab, col, dd, k0, k1, k2, k3, k5, hC, OT⟩ := (excOk_of X₅ q).obj
  obtain ⟨_, _, _, _, _, hob, _⟩ := y₅.2.2.2
  refine wpAny_handleBy_cons (codeAny_handlers_test (name_K F₅ X₅ (topRead_of (TB.keeps K₅.stays)) ex ?_ hk hx hd)) (by intro z; cases z)
  refine wpAny_excMatches_sub_self (F₅.keep _ _ hC) hob rfl (OT.hasType hbase) (codeAny_handlers_suite_as ?_)
  refine land_D (s := { s' with heap := h₅ }) y₅ fun h₆ y₆ u₆ => ?_
  have hsm₆ := hsm₅.trans u₆
  obtain ⟨g₆, T₆, F₆, K₆⟩ := kts_ground K F hBG y₆.1 hsm₆
  obtain ⟨vs, sl, _, _, _, he, _⟩ := y₆.2.2.2
  have ne₆ : g₆.get? e = none := T₆.none_ _ (kts_none F.keep hGe)
  have N₆ : News g₆ L h₆ ((e, excV C d vs sl) :: news) := News.more F₆ (fun z hz => ⟨y₆.1 _ _ (hl z hz).1, (fun t => by have := (hl z hz).1; rw [t, hL] at this; cases this), T₆.none_ _ (kts_none F.keep (hl z hz).2.1)⟩) he (fun es n z => by cases z) ne₆
  exact stN F₆ N₆ (fun h₇ F₇ N₇ => k h₇ g₆ vs sl _ (T0.trans T₆) F₇ N₇ K₆ (XB.keeps K₆.stays) (TB.keeps K₆.stays) (D.turn T₆)) hk hlo
end
end Mine
end
theorem Mine.calm_B24 : True ∧ True := by
  w_top off
  k_with_none
  (try walk1)
  all_goals trivial
section
open PySem PySem.W PySem.Calls PySem.Spec PyProof.Rows
namespace Mine
section
variable {prog : Program} {w : World} {A₀ A : Around} {s : Shared} {base h₀ : Heap} {L : Addr} {m : Str → Option Value} {env : Env} {news : List (Addr × Obj)} {K : Frag} {p : Program} {loose : List Str} {mean : ExcName → Option Value} {mg mb : Str → Option Value}
    {R : Result → Shared → Prop} {name qual : Str} {params : Arguments} {body : List Stmt} {scope : Scope} {dV kV doc pm cdv ct oc : Value} {an od : Option Addr} {osl : Array (Option Value)} {f : Addr} {args : Args} {binds : List (Str × Value)}
theorem def_trying (B : Below A₀ base [] h₀) (F : Fr h₀ L s.heap m) (X₀ : K.In h₀) (N : News h₀ L s.heap news) (T : Top p loose mean mg mb h₀) (hA : A.frames = some [env]) (hfr : env.frame = some L)
    (ho : K.lookup f = some ⟨oc, od, .func (fnOf name qual params body scope dV kV doc pm an cdv ct), osl⟩) (hcd : codeIn K cdv qual = true) (hroom : A.depth < recursionLimit)
    (hbind : BindsTo s (fnOf name qual params body scope dV kV doc pm an cdv ct) args binds) (hloc : ∀ y ∈ binds, scope.names.lookup y.1 = some .local)
    (h : ∀ g L' h₁, Fr h₀ L g m → Fr g L' h₁ (fun y => binds.reverse.lookup y) → News g L' h₁ news → Below A base [env] g → K.In g → Top p loose mean mg mb g → KtsDicts ([env].filterMap (·.frame)) g →
      wpAny (model prog w) (A.deeper (envOf qual scope L' f cdv)) (execs body (envOf qual scope L' f cdv))
        (fun fl s' => LeaveS0 ([env].filterMap (·.frame)) h₀ L m g R (match fl with | .ret v => v | _ => .none) s')
        (fun e s' => wpAny (model prog w) (A.deeper (envOf qual scope L' f cdv)) (leaving (envOf qual scope L' f cdv) e) (fun _ s'' => R (.error e) s'') (fun e' s'' => R (.error e') s'') s')
        { s with heap := h₁, toks := s.toks + binds.length })
    (hck : env.scope.kind = .function) (hco : scope.isCoroutine = false) (hgen : scope.isGenerator = false) (hk : scope.kind = .function)
    (hcell : ∀ x ∈ scope.names, x.2 ≠ .cell) : codeAny (model prog w) A (.call (.ref f) args) R s := by
  have X := X₀.keeps F.keep
  have fl1 : [env].filterMap (·.frame) = [L] := by simp [hfr]
  rw [fl1] at h
  have nm : ∀ b o, h₀.get? b = some o → b ∉ news.map (·.1) := fun b o e q => by
    obtain ⟨z, hz, rfl⟩ := List.mem_map.mp q
    rw [(N z hz).2.2] at e; cases e
  have st : h₀.StaysIn (hideAll s.heap (news.map (·.1))) := fun b o e => hideAll_get _ (F.keep b o e) (nm b o e)
  have nL₀ : h₀.get? L = none := kts_self F
  obtain ⟨oL, es, ep, hL, hLd, hLr⟩ := F.ns
  have nL : L ∉ news.map (·.1) := fun q => by
    obtain ⟨z, hz, e⟩ := List.mem_map.mp q
    exact (N z hz).2.1 e
  have hLg := hideAll_get (news.map (·.1)) hL nL
  have B₁ := pushX B F hfr hck
  have B₂ : Below A base [env] (hideAll s.heap (news.map (·.1))) := ⟨hA, fun b o e => st b o (B.stays b o e), funFrames_hideAll B₁.frames fun e he b hb hf => by
    rw [List.mem_singleton.mp he, hfr] at hf
    cases hf
    exact nL hb⟩
  refine codeAny_call_def (fd := fnOf name qual params body scope dV kV doc pm an cdv ct) (body := body) (binds := binds) hroom (X _ _ ho) rfl (T.nolimit.keeps F.keep) (codeRec_of X hcd) rfl hbind hcell hloc (fun h₁ hns hk₁ => ?_) hco hgen hk
  refine wpAny_mono (h _ s.heap.objs.size h₁ ⟨⟨oL, es, ep, hLg, hLd, hLr⟩, st, F.above⟩ ⟨hns, fun b o e => hk₁ b o (of_hideAll _ e), Nat.le_of_eq (hideAll_size _ _)⟩
    (fun z hz => ⟨hk₁ _ _ (N z hz).1, Nat.ne_of_lt (Heap.lt_size (N z hz).1), hideAll_none _ (List.mem_map_of_mem hz)⟩) B₂ (X₀.keeps st) (T.keeps st) (fun b hb => by
      rw [List.mem_singleton.mp hb]
      exact ⟨oL, es, ep, hLg, hLd⟩)) (fun fl s' hl => ?_) fun _ _ y => y
  obtain ⟨g', L', m', news', T', F', N', k⟩ := hl
  obtain ⟨sl, hs⟩ := T'.up hLg
  refine k ⟨⟨_, es, ep, F'.keep _ _ hs, hLd, hLr⟩, fun b o e => F'.keep b o (T'.other b o (st b o e) (fun q => by
    rw [List.mem_singleton.mp q, nL₀] at e; cases e)), F.above⟩ fun z hz => ⟨(N' z hz).1, fun q => ?_, ?_⟩
  · have := (N' z hz).2.2; rw [q, hs] at this; cases this
  · cases q : h₀.get? z.1 with
    | none => rfl
    | some o =>
      obtain ⟨sl', hs'⟩ := T'.up (st _ _ q)
      have := (N' z hz).2.2
      rw [hs'] at this; cases this
end
end Mine
end
theorem Mine.calm_B26 : True ∧ True := by
  w_top off
  k_with_none
  (try walk1)
  all_goals trivial
section
open PySem PySem.W PySem.Calls PySem.Spec PyProof.Rows Builtin Builtin.ObjectAttr
namespace Mine
theorem ga51 {w : World} : findIn (hd.heap_39 w.params) (.ref 51) "__getattribute__" = some (some (.builtin "BaseException.__getattribute__")) := by kernel_rfl
theorem gat51 {w : World} : findIn (hd.heap_39 w.params) (.ref 51) "__getattr__" = some none := by kernel_rfl
theorem ball_read {prog : Program} {w : World} {A : Around} {E : Value → Shared → Prop} {s : Shared} {K : Frag} {h₀ : Heap} {L e C C2 d b : Addr} {m : Str → Option Value} {vs : Array Value} {sl : Array (Option Value)} {i : Int} {k0 : Tok} {name : Str} {expr : Bool} {news : List (Addr × Obj)} {Q : Value → Shared → Prop}
    (F : Fr h₀ L s.heap m) (X₀ : K.In h₀) (N : News h₀ L s.heap ((e, excV C d vs sl) :: (d, dictOf [⟨i, .str name k0, .ref b⟩] 1) :: news))
    (hga : findIn K (.ref C) "__getattribute__" = some (some (.builtin "BaseException.__getattribute__"))) (hgt : findIn K (.ref C) "__getattr__" = some none)
    (hm : (clsIn K C).map (·.mro) = some [.ref C, .ref C2, .type "Exception", .type "BaseException", .type "object"]) (hdi : (clsIn K C).any (·.hasDict) = true) (hn : findIn K (.ref C) name = some none)
    (h : Q (.ref b) { s with toks := s.toks + 1 }) : wpAny (model prog w) A (getAttr (.ref e) name expr) Q E s := by
  obtain ⟨hh, g, dr, tk, os⟩ := s
  have X : K.In hh := X₀.keeps F.keep
  have hx := (N _ (.head _)).1
  have I : InstAt hh e (excV C d vs sl) C (some (dictOf [⟨i, .str name k0, .ref b⟩] 1)) := ⟨hx, rfl, rfl, (N _ (.tail _ (.head _))).1⟩
  have hf : findObj K C (some (dictOf [⟨i, .str name k0, .ref b⟩] 1)) name = some (.value (.ref b)) := by
    obtain ⟨cd, hc, hd'⟩ := any_some hdi
    have hstr : (Value.str name k0).isStr name = true := by
      show (name == name) = true
      exact beq_self_eq_true name
    unfold findObj W.ownOf lookIn
    rw [hc, hn]
    simp [hd', hstr]
  obtain ⟨cd, hc, hcm⟩ := Option.map_eq_some_iff.mp hm
  have sub : Looks (model prog w) hh (isInstance (.ref e) (.type "BaseException")) true := I.type.andThen (looks_mroIn X (by unfold mroIn; rw [hc, Option.bind_some, hcm]; rfl))
  have L0 : Looks (model prog w) hh (typeOf (.ref e)) (.ref C) := I.type
  have L1 : Looks (model prog w) hh (typeLookup (.ref C) "__getattribute__") (some (.builtin "BaseException.__getattribute__")) := looks_findIn X hga
  have L2 : Looks (model prog w) hh (typeLookup (.ref C) "__getattr__") none := looks_findIn X hgt
  have L3 : Looks (model prog w) hh (find (.ref e) (.ref C) name) (.value (.ref b)) := looks_find X I hf
  have f3 := PySem.F.attr_Exception.ga.bind (.ref e)
  have hx0 : (expr && onTheHeap (Value.builtin "BaseException.__getattribute__")) = false := by cases expr <;> rfl
  have hx2 : (Value.builtin "BaseException.__getattribute__" == Value.builtin "object.__getattribute__") = false := by decide +kernel
  have hx1 : (onTheHeap (Value.ref C) && Value.builtin "BaseException.__getattribute__" == Value.builtin "object.__getattribute__") = false := by rw [hx2]; rfl
  unfold getAttr getAttrBy
  refine wpAny_bind (wpAny_mkText (wpAny_holding (wpAny_bind (L0.at (wpAny_bind (L1.at ?_))))))
  dsimp only
  rw [hx1]
  rw [if_neg (by decide)]
  unfold getAttrByItsOwn hookBefore
  repeat (any_goals (first | assumption | with_reducible refine L2.at ?_ | wp_step))
  have hk : builtinKind "BaseException.__getattribute__" = some .slot := by decide +kernel
  have hsplit : splitId "BaseException.__getattribute__" = some ("BaseException", "__getattribute__") := by decide +kernel
  refine codeAny_call_builtin PySem.F.attr_Exception.ga.plain PySem.F.entry_bexc_ga (@check_slot (model prog w) _ _ ⟨hh, g, dr, tk + 1, os⟩ "BaseException.__getattribute__" "BaseException" "__getattribute__" (.ref e) [.str name tk] [] _ hk hsplit sub (PySem.F.args_bexc_ga (.ref e) (.str name tk)) ?_)
  repeat (any_goals (first | assumption | with_reducible refine L0.at ?_ | with_reducible refine L3.at ?_ | wp_step))
end Mine
end
theorem Mine.calm_B25 : True ∧ True := by
  w_top off
  k_with_none
  (try walk1)
  all_goals trivial
section
open PySem PySem.W PySem.Calls PySem.Spec PyProof.Rows
namespace Mine
theorem err51 {w : World} : nsIn (hd.heap_39 w.params) mainGlobals "PrologError" = some (some (.ref 51)) := by kernel_rfl
theorem nought_spec {w : World} {p : Program} {loose : List Str} {mean : ExcName → Option Value} {mg mb : Str → Option Value}
    (cn : Str) (cs : Scope) (L a : Addr) (ccd : Value) (cl : List (Str × Addr)) (A₀ : Around) (base h₀ : Heap) (m : Str → Option Value)
    (c : SymSt) (n : Nat) (rest : List (Addr × Obj)) (x : Addr) (word : Str) (tw : Tok) (number : Int) (tn : Tok) (s : Shared) (Q E : Value → Shared → Prop)
    (B : Below A₀ base [] h₀) (F : Fr h₀ L s.heap m) (X : (hd.heap_39 w.params).In h₀) (T : Top p loose mean mg mb h₀) (XB : (hd.heap_39 w.params).In base) (TB : Top p loose mean mg mb base) (hk : cs.kind = .function)
    (N : News h₀ L s.heap (c.led ++ rest)) (hok : c.Ok PySem.Challenge.rw_rh0067_01.row.prog w n) (hn : n ≤ 3000) (hr : c.Off rest) (hx : c.x = x)
    (ret : ∀ (c' : SymSt) (bl : List (Addr × Obj)) (b : Addr) (h' : Heap) (tk' : Nat), c'.Ok PySem.Challenge.rw_rh0067_01.row.prog w (n + 3) → c.Le c' → Ball c' bl b → c'.Off (bl ++ rest) → (∀ p ∈ bl, ∀ q ∈ rest, q.1 ≠ p.1) → Fr h₀ L h' m → News h₀ L h' (bl ++ (c'.led ++ rest)) → Q (.ref b) { s with heap := h', toks := tk' }) :
    wpAny (model PySem.Challenge.rw_rh0067_01.row.prog w) (ktrTop 420 700 none cn cs L a ccd cl []) (call (.ref 242) [.ref x, .str word tw, .int number tn]) Q E s := by
  k_with_none
  k_with "own mem" => assumption
  k_with "own all" => assumption
  k_with "own call ref" => ((with_reducible show wpAny _ _ (call (Value.ref 179) [Value.ref _, Value.str _ _]) _ _ _); k_dflt (refine' wpAny_wk ?zzw1 ?zzw2 ?zzw3 ?zzw4 ?zzw5 (err_spec _ _ _ _ _ _ _ _ _ _ _ _ _ _ _ _ _ _ _ ?zzB ?zzF ?zzX ?zzT ?zzhk ?zzN ?zzhok ?zzhn ?zzhr ?zzhx ?_); (case zzB => k_asm); (case zzF => k_asm); (case zzN => k_asm); (case zzw3 => exact rfl); (case zzX => k_asm); (case zzT => k_asm); (case zzhk => first | exact rfl | assumption); (case zzw1 => exact rfl); (case zzw2 => exact Nat.le_of_ble_eq_true rfl); (case zzw4 => exact rfl); (case zzw5 => exact Nat.le_of_ble_eq_true rfl); (case zzhok => assumption); (case zzhn => omega); (case zzhr => assumption); (case zzhx => assumption)); intro _ _ _ _ _ _ _ _ _ _ _ _ _ _ _ _ _ _; (try dsimp only); (try k_sweep))
  k_with "own call ref" => ((with_reducible show wpAny _ _ (call (Value.ref 200) _) _ _ _); refine wpAny_call ?_; k_enter)
  k_with "own exec Raise some none" => (k_dflt (refine' Raise_own3 (C := 51) (bmB := [.type "Exception", .type "BaseException", .type "object"]) (newId := "Exception.__new__") ?zzhh ?zzhb ?_; (case zzhh => exact rfl); (case zzhb => decide)))
  k_with "own RaisableO" => (k_dflt (refine' raisableO ?zzF ?zzX ok51 ?zzN ?_; (case zzF => k_asm); (case zzX => k_asm); (case zzN => k_asm)))
  k_with "own eval Call" => (k_dflt (refine Call_ ?_))
  k_with "own leaving ref" => (k_dflt (refine' leave_raiseD ?zzK ?zzF ?zzN ?zzhne ?_; (case zzK => k_asm); (case zzF => k_asm); (case zzN => k_asm); (case zzhne => assumption)); intro _ R' U'; (try dsimp only at R' U' ⊢))
  k_with "own noteFrame ref" => (k_dflt (refine' caught_D (bmB := [.type "Exception", .type "BaseException", .type "object"]) (newId := "Exception.__new__") ?zzR ?zzF ?zzK ?zzhsm ?zzXB ?zzTB ?zzD ?zzT0 err51 ok51 ?zzhb ?_; (case zzR => assumption); (case zzF => assumption); (case zzK => assumption); (case zzhsm => assumption); (case zzXB => assumption); (case zzTB => assumption); (case zzD => assumption); (case zzT0 => exact KtsTurn.refl); (case zzhb => decide)); intro _ _ _ _ _ _ _ _ _ _ _ _; (try dsimp only); (try k_sweep))
  k_with "own getAttr ref" => (k_dflt (refine' ball_read ?zzF ?zzX ?zzN ga51 gat51 mro51 dict51 ball51 ?_; (case zzF => k_asm); (case zzX => k_asm); (case zzN => k_asm)))
  have hxm : (x, instObj 154 c.dx) ∈ c.led ++ rest := by rw [← hx]; exact .head _
  revert X; k_fill; intro X
  refine wpAny_call ?_
  k_dflt (refine' def_trying ?k1 ?k2 ?k3 ?k4 ?k5 ?kA ?kF ?k6 ?k7 ?k8 ?k9 ?kB ?_ ?cK ?c2 ?c3 ?c4 ?c5; (case kA => exact rfl); (case kF => exact rfl); (case k2 => k_asm); (case k1 => k_asm); (case k3 => k_asm); (case k4 => k_asm); (case k5 => k_asm); (case k6 => k_is); (case k7 => k_is); (case k8 => ktr_room); (case k9 => exact BindsTo.of_eq rfl); (case kB => exact locs rfl); (case cK => assumption); (case c2 => exact rfl); (case c3 => exact rfl); (case c4 => exact rfl); (case c5 => decide); k_whole)
  intro g' L' h' FG' F' N' B' X' T' D'
  (try dsimp only)
  (try k_fold)
  k_steps
  refine' ret _ _ _ _ _ ?hok ?hle ?hb ?ho ?hbr ?hF (cb_drop ?hN ?hs)
  (case hb => assumption)
  (case hF => assumption)
  (case hN => assumption)
  (case hok => assumption)
  (case hle => assumption)
  (case ho => assumption)
  (case hbr => assumption)
  (case hs => exact fun q hq => .tail _ (.tail _ hq))
end Mine
end
theorem Mine.calm_D1 : True ∧ True := by
  w_top off
  k_with_none
  (try walk1)
  all_goals trivial
section
open PySem PySem.W PySem.Calls PySem.Spec PyProof.Rows
namespace Mine
theorem pull2 {h₀ h : Heap} {L : Addr} {e f : Addr × Obj} {led r r2 : List (Addr × Obj)} (h1 : Pull e led r) (h2 : Pull f r r2) (N : News h₀ L h led) : News h₀ L h (e :: f :: r2) :=
  cb_drop N fun q hq => (h1 q).mpr ((List.mem_cons.mp hq).imp id fun hq => (h2 q).mpr (List.mem_cons.mp hq))
/-- the pool, as the law holds it -/
abbrev poolO (q : Addr) (d i k : Int) (t1 t2 t3 : Tok) (n : Nat) : Obj := listOf #[.ref q, .int d t1, .int i t2, .int k t3] n
theorem drawL_spec {w : World} {p : Program} {loose : List Str} {mean : ExcName → Option Value} {mg mb : Str → Option Value}
    (cn : Str) (cs : Scope) (L a : Addr) (ccd : Value) (cl : List (Str × Addr)) (outer : List Env) (A₀ : Around) (base h₀ : Heap) (m : Str → Option Value)
    (pa q : Addr) (d i k : Int) (t1 t2 t3 : Tok) (n n2 : Nat) (vs : List Value) (ns : List Int) (led l1 rest : List (Addr × Obj)) (lim : Int) (tl : Tok) (s : Shared) (Q E : Value → Shared → Prop)
    (B : Below A₀ base outer h₀) (F : Fr h₀ L s.heap m) (X : (hd.heap_39 w.params).In h₀) (T : Top p loose mean mg mb h₀) (hk : cs.kind = .function)
    (N : News h₀ L s.heap led) (hp1 : Pull (pa, poolO q d i k t1 t2 t3 n) led l1) (hp2 : Pull (q, listOf vs.toArray n2) l1 rest)
    (hI : IntsAre vs ns) (hlen : ns.length ≤ 63) (hqp : @Ne Nat q pa) (hne : ∀ x ∈ rest, x.1 ≠ pa) (hi : -1 ≤ i) (hl : 0 < lim) (hlb : lim.natAbs.log2 < 9000)
    (ret : ∀ (v : Int) (tv : Tok) (d i k : Int) (t1 t2 t3 : Tok) (n : Nat) (h' : Heap) (tk' : Nat), 0 ≤ v → v < lim → -1 ≤ i → Fr h₀ L h' m →
      News h₀ L h' ((pa, poolO q d i k t1 t2 t3 n) :: (q, listOf vs.toArray n2) :: rest) → Q (.int v tv) { s with heap := h', toks := tk' }) :
    wpAny (model PySem.Challenge.rw_rh0067_01.row.prog w) (ktrTop 500 1000 none cn cs L a ccd cl outer) (call (.ref 207) [.ref pa, .int lim tl]) Q E s :=
  draw_spec cn cs L a ccd cl outer A₀ base h₀ m pa q d i k t1 t2 t3 n n2 vs ns rest lim tl s Q E B F X T hk (pull2 hp1 hp2 N) hI hlen hqp hne hi hl hlb ret
theorem wholeL_spec {w : World} {p : Program} {loose : List Str} {mean : ExcName → Option Value} {mg mb : Str → Option Value}
    (cn : Str) (cs : Scope) (L a : Addr) (ccd : Value) (cl : List (Str × Addr)) (outer : List Env) (A₀ : Around) (base h₀ : Heap) (m : Str → Option Value)
    (pa q : Addr) (d i k : Int) (t1 t2 t3 : Tok) (n n2 : Nat) (vs : List Value) (ns : List Int) (led l1 rest : List (Addr × Obj)) (s : Shared) (Q E : Value → Shared → Prop)
    (B : Below A₀ base outer h₀) (F : Fr h₀ L s.heap m) (X : (hd.heap_39 w.params).In h₀) (T : Top p loose mean mg mb h₀) (hk : cs.kind = .function)
    (N : News h₀ L s.heap led) (hp1 : Pull (pa, poolO q d i k t1 t2 t3 n) led l1) (hp2 : Pull (q, listOf vs.toArray n2) l1 rest)
    (hI : IntsAre vs ns) (hlen : ns.length ≤ 63) (hqp : @Ne Nat q pa) (hne : ∀ x ∈ rest, x.1 ≠ pa) (hi : -1 ≤ i)
    (ret : ∀ (v : Int) (tv : Tok) (d i k : Int) (t1 t2 t3 : Tok) (n : Nat) (h' : Heap) (tk' : Nat), v.natAbs ≤ 5 * 10 ^ 39 → -1 ≤ i → Fr h₀ L h' m →
      News h₀ L h' ((pa, poolO q d i k t1 t2 t3 n) :: (q, listOf vs.toArray n2) :: rest) → Q (.int v tv) { s with heap := h', toks := tk' }) :
    wpAny (model PySem.Challenge.rw_rh0067_01.row.prog w) (ktrTop 450 800 none cn cs L a ccd cl outer) (call (.ref 214) [.ref pa]) Q E s :=
  whole_spec cn cs L a ccd cl outer A₀ base h₀ m pa q d i k t1 t2 t3 n n2 vs ns rest s Q E B F X T hk (pull2 hp1 hp2 N) hI hlen hqp hne hi ret
theorem radixL_spec {w : World} {p : Program} {loose : List Str} {mean : ExcName → Option Value} {mg mb : Str → Option Value}
    (cn : Str) (cs : Scope) (L a : Addr) (ccd : Value) (cl : List (Str × Addr)) (outer : List Env) (A₀ : Around) (base h₀ : Heap) (m : Str → Option Value)
    (pa q : Addr) (d i k : Int) (t1 t2 t3 : Tok) (n n2 : Nat) (vs : List Value) (ns : List Int) (led l1 rest : List (Addr × Obj)) (s : Shared) (Q E : Value → Shared → Prop)
    (B : Below A₀ base outer h₀) (F : Fr h₀ L s.heap m) (X : (hd.heap_39 w.params).In h₀) (T : Top p loose mean mg mb h₀) (hk : cs.kind = .function)
    (N : News h₀ L s.heap led) (hp1 : Pull (pa, poolO q d i k t1 t2 t3 n) led l1) (hp2 : Pull (q, listOf vs.toArray n2) l1 rest)
    (hI : IntsAre vs ns) (hlen : ns.length ≤ 63) (hqp : @Ne Nat q pa) (hne : ∀ x ∈ rest, x.1 ≠ pa) (hi : -1 ≤ i)
    (ret : ∀ (v : Int) (tv : Tok) (d i k : Int) (t1 t2 t3 : Tok) (n : Nat) (h' : Heap) (tk' : Nat), v ≠ 0 → v.natAbs ≤ 10 ^ 8 → -1 ≤ i → Fr h₀ L h' m →
      News h₀ L h' ((pa, poolO q d i k t1 t2 t3 n) :: (q, listOf vs.toArray n2) :: rest) → Q (.int v tv) { s with heap := h', toks := tk' }) :
    wpAny (model PySem.Challenge.rw_rh0067_01.row.prog w) (ktrTop 450 800 none cn cs L a ccd cl outer) (call (.ref 221) [.ref pa]) Q E s :=
  radix_spec cn cs L a ccd cl outer A₀ base h₀ m pa q d i k t1 t2 t3 n n2 vs ns rest s Q E B F X T hk (pull2 hp1 hp2 N) hI hlen hqp hne hi ret
end Mine
end
theorem Mine.calm_D2 : True ∧ True := by
  w_top off
  k_with_none
  (try walk1)
  all_goals trivial
section
open PySem PySem.W PySem.Calls PySem.Spec PyProof.Rows
namespace Mine
section
variable {prog : Program} {w : World} {A : Around} {s : Shared} {h₀ : Heap} {L : Addr} {m : Str → Option Value} {env : Env}
theorem rest_ind {elt : Expr} {x : Str} {scope : Scope} {cl : List (Str × Addr)} {S : List (Addr × Obj) → Prop} {P : Nat → Value → Prop} {Fin : List Value → List (Addr × Obj) → Prop} (n : Nat) (J : Nat → List Value → List (Addr × Obj) → Prop)
    (step : ∀ i ys news v I oI C oC D m₂ h tk (E' : Value → Shared → Prop), i < n → J i ys news → P i v → LCg.NsObj oC m₂ → m₂ x = some v → Fr h₀ L h m → News h₀ L h ((I, oI) :: (C, oC) :: (D, LCg.lst ys) :: news) → LCg.Off3 I C D news → ((@Ne Nat I C) ∧ (@Ne Nat I D) ∧ (@Ne Nat C D)) →
      wpAny (model prog w) A (eval elt (compEnvC scope cl C env)) (LCg.CompEnd h₀ L m { s with heap := h, toks := tk } I oI C oC D (LCg.lst ys) S (fun y news' => J (i + 1) (ys ++ [y]) news')) E' { s with heap := h, toks := tk })
    (fin : ∀ ys news, J n ys news → Fin ys news) :
    ∀ k i ys news, i + k = n → J i ys news → LCg.CompRest prog w A h₀ L m env elt x scope cl s S P Fin k i ys news := by
  intro k
  induction k with
  | zero => exact fun i ys news e hJ => LCg.CompRest.zero (fin ys news (by rw [← e]; exact hJ))
  | succ k ih =>
    refine fun i ys news e hJ => LCg.CompRest.succ fun v I oI C oC D m₂ h tk E' hP hns hx F N off hne => ?_
    refine wpAny_mono (step i ys news v I oI C oC D m₂ h tk E' (by omega) hJ hP hns hx F N off hne) (fun y s₂ hq => ?_) fun _ _ z => z
    obtain ⟨h', tk', news', e', F', N', off', hS, r⟩ := hq
    exact ⟨h', tk', news', e', F', N', off', hS, ih (i + 1) _ news' (by omega) r⟩
end
end Mine
end
theorem Mine.calm_D3 : True ∧ True := by
  w_top off
  k_with_none
  (try walk1)
  all_goals trivial
section
open PySem PySem.W PySem.Calls PySem.Spec PyProof.Rows
namespace Mine
def JBases (pa q : Addr) (vs : List Value) (n2 : Nat) (rest : List (Addr × Obj)) (i : Nat) (ys : List Value) (news : List (Addr × Obj)) : Prop :=
  ∃ d j k t1 t2 t3 n bs, news = (pa, poolO q d j k t1 t2 t3 n) :: (q, listOf vs.toArray n2) :: rest ∧ -1 ≤ j ∧ IntsAre ys bs ∧ bs.length = i ∧ ∀ b ∈ bs, b ≠ 0 ∧ b.natAbs ≤ 10 ^ 8
theorem ints_snoc {ys : List Value} {bs : List Int} (v : Int) (t : Tok) (h : IntsAre ys bs) : IntsAre (ys ++ [.int v t]) (bs ++ [v]) := by
  induction h with
  | nil => exact IntsAre.cons v t IntsAre.nil
  | cons n u _ ih => exact IntsAre.cons n u ih
theorem range_up (b : Int) : Builtin.Range.rangeSize 0 b 1 = ((b.toNat : Nat) : Int) := by
  rw [rangeSize_one]
  split <;> omega
theorem jb_snoc {pa q : Addr} {vs : List Value} {n2 i : Nat} {rest : List (Addr × Obj)} {ys : List Value} {d j k v : Int} {t1 t2 t3 t : Tok} {n : Nat} {bs : List Int}
    (hj : -1 ≤ j) (hI : IntsAre ys bs) (hl : bs.length = i) (hb : ∀ b ∈ bs, b ≠ 0 ∧ b.natAbs ≤ 10 ^ 8) (h0 : v ≠ 0) (h1 : v.natAbs ≤ 10 ^ 8) :
    JBases pa q vs n2 rest (i + 1) (ys ++ [.int v t]) ((pa, poolO q d j k t1 t2 t3 n) :: (q, listOf vs.toArray n2) :: rest) :=
  ⟨d, j, k, t1, t2, t3, n, bs ++ [v], rfl, hj, ints_snoc v t hI, by rw [List.length_append, hl]; rfl, fun b hbm => by
    rcases List.mem_append.mp hbm with h | h
    · exact hb b h
    · rw [List.mem_singleton.mp h]; exact ⟨h0, h1⟩⟩
section
variable {prog : Program} {w : World} {A : Around} {s₁ : Shared} {h₀ : Heap} {L : Addr} {m : Str → Option Value} {env : Env}
theorem bases_src {elt : Expr} {x : Str} {scope : Scope} {cl : List (Str × Addr)} {Fin : Shared → List Value → List (Addr × Obj) → Prop} {r pa q : Addr} {b d j k : Int} {t u v t1 t2 t3 : Tok} {n n2 : Nat} {vs : List Value} {rest : List (Addr × Obj)}
    (hh : A.handled = none) (F : Fr h₀ L s₁.heap m) (N : News h₀ L s₁.heap ((pa, poolO q d j k t1 t2 t3 n) :: (q, listOf vs.toArray n2) :: rest)) (hr : IsRange s₁.heap r 0 b 1 t u v) (hb : 0 ≤ b) (hb2 : b ≤ 60) (hj : -1 ≤ j)
    (step : ∀ (i : Nat) (ys : List Value) (bs : List Int) (d j k : Int) (t1 t2 t3 : Tok) (n : Nat) (v : Value) (I : Addr) (oI : Obj) (C : Addr) (oC : Obj) (D : Addr) (m₂ : Str → Option Value) (g h : Heap) (tk : Nat) (E' : Value → Shared → Prop), IntsAre ys bs → bs.length = i → (∀ b ∈ bs, b ≠ 0 ∧ b.natAbs ≤ 10 ^ 8) → -1 ≤ j → LCg.NsObj oC m₂ → Fr h₀ L h m →
      News h₀ L h ((I, oI) :: (C, oC) :: (D, LCg.lst ys) :: (pa, poolO q d j k t1 t2 t3 n) :: (q, listOf vs.toArray n2) :: rest) → LCg.Off3 I C D ((pa, poolO q d j k t1 t2 t3 n) :: (q, listOf vs.toArray n2) :: rest) → @Ne Nat I pa → @Ne Nat C pa → @Ne Nat D pa → ((@Ne Nat I C) ∧ (@Ne Nat I D) ∧ (@Ne Nat C D)) →
      wpAny (model prog w) A (eval elt (compEnvC scope cl C env)) (LCg.CompEnd h₀ L m { s₁ with heap := h, toks := tk } I oI C oC D (LCg.lst ys) (fun _ => True) (fun y news' => JBases pa q vs n2 rest (i + 1) (ys ++ [y]) news')) E' { s₁ with heap := h, toks := tk })
    (fin : ∀ (g : Heap) (ys : List Value) (bs : List Int) (d j k : Int) (t1 t2 t3 : Tok) (n : Nat), IntsAre ys bs → bs.length = b.toNat → (∀ b ∈ bs, b ≠ 0 ∧ b.natAbs ≤ 10 ^ 8) → -1 ≤ j → Fin { s₁ with heap := g } ys ((pa, poolO q d j k t1 t2 t3 n) :: (q, listOf vs.toArray n2) :: rest)) :
    LCg.CompSrc prog w A h₀ L m env elt x scope cl Fin (.ref r) s₁ := by
  refine LCg.CompSrc.range hh F N hr (small_one (by omega) (by omega) (by omega) (by omega)) (range_up b) (by rw [sizeLine_eq]; omega) fun g => ?_
  refine rest_ind b.toNat (JBases pa q vs n2 rest) ?_ ?_ _ 0 [] _ (Nat.zero_add _) ⟨d, j, k, t1, t2, t3, n, [], rfl, hj, IntsAre.nil, rfl, fun _ h => nomatch h⟩
  · rintro i ys news v I oI C oC D m₂ h tk E' _ ⟨d, j, k, t1, t2, t3, n, bs, rfl, hj', hI, hl, hbs⟩ _ hns _ F' N' off hne
    exact step i ys bs d j k t1 t2 t3 n v I oI C oC D m₂ g h tk E' hI hl hbs hj' hns F' N' off (Ne.symm off.1.1) (Ne.symm off.1.2.1) (Ne.symm off.1.2.2) hne
  · rintro ys news ⟨d, j, k, t1, t2, t3, n, bs, rfl, hj', hI, hl, hbs⟩
    exact fin g ys bs d j k t1 t2 t3 n hI hl hbs hj'
theorem ce_bases {I C D pa q : Addr} {oI oC o0 : Obj} {ys : List Value} {bs : List Int} {d j k v : Int} {t1 t2 t3 t : Tok} {n n2 i : Nat} {vs : List Value} {rest : List (Addr × Obj)} {h' : Heap} {tk : Nat}
    (F : Fr h₀ L h' m) (N : News h₀ L h' ((pa, poolO q d j k t1 t2 t3 n) :: (q, listOf vs.toArray n2) :: (I, oI) :: (C, oC) :: (D, LCg.lst ys) :: rest)) (off : LCg.Off3 I C D ((pa, o0) :: (q, listOf vs.toArray n2) :: rest))
    (hj : -1 ≤ j) (hI : IntsAre ys bs) (hl : bs.length = i) (hb : ∀ b ∈ bs, b ≠ 0 ∧ b.natAbs ≤ 10 ^ 8) (h0 : v ≠ 0) (h1 : v.natAbs ≤ 10 ^ 8) :
    LCg.CompEnd h₀ L m s₁ I oI C oC D (LCg.lst ys) (fun _ => True) (fun y news' => JBases pa q vs n2 rest (i + 1) (ys ++ [y]) news') (.int v t) { s₁ with heap := h', toks := tk } :=
  LCg.CompEnd.intro F N ((pa, poolO q d j k t1 t2 t3 n) :: (q, listOf vs.toArray n2) :: rest) (fun p hp => by
    simp only [List.mem_cons] at hp ⊢
    rcases hp with h | h | h | h | h | h <;> simp [h]) ⟨off.1, off.2⟩ trivial (jb_snoc hj hI hl hb h0 h1)
end
end Mine
end
theorem Mine.calm_D4 : True ∧ True := by
  w_top off
  k_with_none
  (try walk1)
  all_goals trivial
section
open PySem PySem.W PySem.Calls PySem.Spec PyProof.Rows
namespace Mine
theorem ints_at : ∀ {vs : List Value} {ns : List Int}, IntsAre vs ns → ∀ (i : Nat) (v : Value), vs[i]? = some v → ∃ n t, v = .int n t ∧ ns[i]? = some n
  | _, _, .nil, i, v, h => by simp at h
  | _, _, .cons n t hI, 0, v, h => ⟨n, t, (Option.some.inj h).symm, rfl⟩
  | _, _, .cons n t hI, i + 1, v, h => ints_at hI i v (by simpa using h)
def MapEnd (h₀ : Heap) (L : Addr) (m : Str → Option Value) (s₁ : Shared) (n : Int) (led : List (Addr × Obj)) (y : Value) (s₂ : Shared) : Prop :=
  ∃ t h' tk', y = .int n t ∧ s₂ = { s₁ with heap := h', toks := tk' } ∧ Fr h₀ L h' m ∧ News h₀ L h' led
section
variable {prog : Program} {w : World} {A : Around} {s₁ : Shared} {h₀ : Heap} {L : Addr} {m : Str → Option Value} {env : Env}
theorem map_src {elt : Expr} {x : Str} {scope : Scope} {cl : List (Str × Addr)} {Fin : Shared → List Value → List (Addr × Obj) → Prop} {ax : Addr} {nb : Nat} {bvs : List Value} {bs : List Int} {news : List (Addr × Obj)} (f : Int → Int)
    (hh : A.handled = none) (F : Fr h₀ L s₁.heap m) (N : News h₀ L s₁.heap news) (hm : (ax, listOf bvs.toArray nb) ∈ news) (hI : IntsAre bvs bs) (hlen : bs.length ≤ 64)
    (step : ∀ (b : Int) (tb : Tok) (ys : List Value) (I : Addr) (oI : Obj) (C : Addr) (oC : Obj) (D : Addr) (m₂ : Str → Option Value) (g h : Heap) (tk : Nat) (E' : Value → Shared → Prop), b ∈ bs → LCg.NsObj oC m₂ → m₂ x = some (.int b tb) → Fr h₀ L h m →
      News h₀ L h ((I, oI) :: (C, oC) :: (D, LCg.lst ys) :: news) →
      wpAny (model prog w) A (eval elt (compEnvC scope cl C env)) (MapEnd h₀ L m { s₁ with heap := h, toks := tk } (f b) ((I, oI) :: (C, oC) :: (D, LCg.lst ys) :: news)) E' { s₁ with heap := h, toks := tk })
    (fin : ∀ (g : Heap) (ys : List Value), IntsAre ys (bs.map f) → Fin { s₁ with heap := g } ys news) :
    LCg.CompSrc prog w A h₀ L m env elt x scope cl Fin (.ref ax) s₁ := by
  have hbl : bvs.length = bs.length := hI.length
  refine LCg.CompSrc.ledger hh F N hm (by rw [List.size_toArray, sizeLine_eq]; omega) fun g => ?_
  refine rest_ind bvs.length (fun i ys led => led = news ∧ IntsAre ys ((bs.take i).map f)) ?_ ?_ _ 0 [] _ (by simp) ⟨rfl, by simpa using IntsAre.nil⟩
  · rintro i ys led v I oI C oC D m₂ h tk E' hi ⟨rfl, hJ⟩ hP hns hx F' N' off hne
    have hv : bvs[i]? = some v := by simpa using hP
    obtain ⟨b, tb, rfl, hb⟩ := ints_at hI i v hv
    refine wpAny_mono (step b tb ys I oI C oC D m₂ g h tk E' (List.mem_of_getElem? hb) hns hx F' N') (fun y s₂ hq => ?_) fun _ _ z => z
    obtain ⟨t, h', tk', rfl, rfl, F'', N''⟩ := hq
    refine LCg.CompEnd.intro F'' N'' led (fun p hp => hp) off (.inr ⟨_, hm, rfl, _, rfl⟩) ⟨rfl, ?_⟩
    have e : (bs.take (i + 1)).map f = (bs.take i).map f ++ [f b] := by
      rw [List.take_add_one, hb, List.map_append]; rfl
    rw [e]
    exact ints_snoc _ _ hJ
  · rintro ys led ⟨rfl, hJ⟩
    rw [hbl, List.take_length] at hJ
    exact fin g ys hJ
end
end Mine
end
theorem Mine.calm_D5 : True ∧ True := by
  w_top off
  k_with_none
  (try walk1)
  all_goals trivial
section
open PySem PySem.W PySem.Calls PySem.Spec PyProof.Rows
namespace Mine
def Within1 (ds ws : List Int) : Prop := ∀ (j : Nat) (d w : Int), ds[j]? = some d → ws[j]? = some w → 0 ≤ d ∧ d < w
theorem Within1.snoc {ds ws : List Int} {d w : Int} (h : Within1 ds ws) (hw : ws[ds.length]? = some w) (h0 : 0 ≤ d) (h1 : d < w) : Within1 (ds ++ [d]) ws := by
  intro j d' w' hd hw'
  by_cases hj : j < ds.length
  · rw [List.getElem?_append_left hj] at hd
    exact h j d' w' hd hw'
  · have hj2 : j = ds.length := by
      have := (List.getElem?_eq_some_iff.mp hd).1
      simp only [List.length_append, List.length_singleton] at this
      omega
    subst hj2
    simp only [List.getElem?_concat_length, Option.some.injEq] at hd
    rw [hw] at hw'
    cases hw'
    subst hd
    exact ⟨h0, h1⟩
def JDrawn (pa q : Addr) (vs : List Value) (n2 : Nat) (rest : List (Addr × Obj)) (ws : List Int) (i : Nat) (ys : List Value) (news : List (Addr × Obj)) : Prop :=
  ∃ d j k t1 t2 t3 n ds, news = (pa, poolO q d j k t1 t2 t3 n) :: (q, listOf vs.toArray n2) :: rest ∧ -1 ≤ j ∧ IntsAre ys ds ∧ ds.length = i ∧ Within1 ds ws
section
variable {prog : Program} {w : World} {A : Around} {s₁ : Shared} {h₀ : Heap} {L : Addr} {m : Str → Option Value} {env : Env}
theorem drawn_src {elt : Expr} {x : Str} {scope : Scope} {cl : List (Str × Addr)} {Fin : Shared → List Value → List (Addr × Obj) → Prop} {ax pa q : Addr} {nb n n2 : Nat} {wvs vs : List Value} {ws : List Int} {rest : List (Addr × Obj)} {led l1 : List (Addr × Obj)} {d j k : Int} {t1 t2 t3 : Tok}
    (hh : A.handled = none) (F : Fr h₀ L s₁.heap m) (N : News h₀ L s₁.heap led) (hp1 : Pull (pa, poolO q d j k t1 t2 t3 n) led l1) (hp2 : Pull (q, listOf vs.toArray n2) l1 rest) (hm : (ax, listOf wvs.toArray nb) ∈ rest) (hI : IntsAre wvs ws) (hlen : ws.length ≤ 64) (hj : -1 ≤ j)
    (step : ∀ (i : Nat) (wd : Int) (tw : Tok) (ys : List Value) (ds : List Int) (d j k : Int) (t1 t2 t3 : Tok) (n : Nat) (I : Addr) (oI : Obj) (C : Addr) (oC : Obj) (D : Addr) (m₂ : Str → Option Value) (g h : Heap) (tk : Nat) (E' : Value → Shared → Prop), ws[i]? = some wd → wd ∈ ws → IntsAre ys ds → ds.length = i → Within1 ds ws → -1 ≤ j →
      LCg.NsObj oC m₂ → m₂ x = some (.int wd tw) → Fr h₀ L h m → News h₀ L h ((I, oI) :: (C, oC) :: (D, LCg.lst ys) :: (pa, poolO q d j k t1 t2 t3 n) :: (q, listOf vs.toArray n2) :: rest) → LCg.Off3 I C D ((pa, poolO q d j k t1 t2 t3 n) :: (q, listOf vs.toArray n2) :: rest) → @Ne Nat I pa → @Ne Nat C pa → @Ne Nat D pa →
      wpAny (model prog w) A (eval elt (compEnvC scope cl C env)) (LCg.CompEnd h₀ L m { s₁ with heap := h, toks := tk } I oI C oC D (LCg.lst ys) (LCg.SrcAt h₀ ax wvs.toArray) (fun y news' => JDrawn pa q vs n2 rest ws (i + 1) (ys ++ [y]) news')) E' { s₁ with heap := h, toks := tk })
    (fin : ∀ (g : Heap) (ys : List Value) (ds : List Int) (d j k : Int) (t1 t2 t3 : Tok) (n : Nat), IntsAre ys ds → ds.length = ws.length → Within1 ds ws → -1 ≤ j → Fin { s₁ with heap := g } ys ((pa, poolO q d j k t1 t2 t3 n) :: (q, listOf vs.toArray n2) :: rest)) :
    LCg.CompSrc prog w A h₀ L m env elt x scope cl Fin (.ref ax) s₁ := by
  have hwl : wvs.length = ws.length := hI.length
  refine LCg.CompSrc.ledger hh F (pull2 hp1 hp2 N) (.tail _ (.tail _ hm)) (by rw [List.size_toArray, sizeLine_eq]; omega) fun g => ?_
  refine rest_ind wvs.length (JDrawn pa q vs n2 rest ws) ?_ ?_ _ 0 [] _ (by simp) ⟨d, j, k, t1, t2, t3, n, [], rfl, hj, IntsAre.nil, rfl, fun j d w h => by simp at h⟩
  · rintro i ys news v I oI C oC D m₂ h tk E' _ ⟨d, j, k, t1, t2, t3, n, ds, rfl, hj', hJ, hl, hW⟩ hP hns hx F' N' off hne
    have hv : wvs[i]? = some v := by simpa using hP
    obtain ⟨wd, tw, rfl, hb⟩ := ints_at hI i v hv
    exact step i wd tw ys ds d j k t1 t2 t3 n I oI C oC D m₂ g h tk E' hb (List.mem_of_getElem? hb) hJ hl hW hj' hns hx F' N' off (Ne.symm off.1.1) (Ne.symm off.1.2.1) (Ne.symm off.1.2.2)
  · rintro ys news ⟨d, j, k, t1, t2, t3, n, ds, rfl, hj', hJ, hl, hW⟩
    exact fin g ys ds d j k t1 t2 t3 n hJ (by rw [hl, hwl]) hW hj'
theorem ce_drawn {I C D pa q ax : Addr} {oI oC o0 : Obj} {ys wvs : List Value} {ds ws : List Int} {d j k v wd : Int} {t1 t2 t3 t : Tok} {n n2 nb i : Nat} {vs : List Value} {rest : List (Addr × Obj)} {h' : Heap} {tk : Nat}
    (F : Fr h₀ L h' m) (N : News h₀ L h' ((pa, poolO q d j k t1 t2 t3 n) :: (q, listOf vs.toArray n2) :: (I, oI) :: (C, oC) :: (D, LCg.lst ys) :: rest)) (off : LCg.Off3 I C D ((pa, o0) :: (q, listOf vs.toArray n2) :: rest)) (hm : (ax, listOf wvs.toArray nb) ∈ rest)
    (hj : -1 ≤ j) (hI : IntsAre ys ds) (hl : ds.length = i) (hb : Within1 ds ws) (hw : ws[i]? = some wd) (h0 : 0 ≤ v) (h1 : v < wd) :
    LCg.CompEnd h₀ L m s₁ I oI C oC D (LCg.lst ys) (LCg.SrcAt h₀ ax wvs.toArray) (fun y news' => JDrawn pa q vs n2 rest ws (i + 1) (ys ++ [y]) news') (.int v t) { s₁ with heap := h', toks := tk } :=
  LCg.CompEnd.intro F N ((pa, poolO q d j k t1 t2 t3 n) :: (q, listOf vs.toArray n2) :: rest) (fun p hp => by
    simp only [List.mem_cons] at hp ⊢
    rcases hp with h | h | h | h | h | h <;> simp [h]) ⟨off.1, off.2⟩ (.inr ⟨_, .tail _ (.tail _ hm), rfl, _, rfl⟩)
    ⟨d, j, k, t1, t2, t3, n, ds ++ [v], rfl, hj, ints_snoc v t hI, by rw [List.length_append, hl]; rfl, hb.snoc (by rw [hl]; exact hw) h0 h1⟩
end
end Mine
end
theorem Mine.calm_M3 : True ∧ True := by
  w_top off
  k_with_none
  (try walk1)
  all_goals trivial
section
open PySem PySem.W PySem.Calls PySem.Spec PyProof.Rows
namespace Mine
def wt (l : List Int) : Int := l.foldl (fun a b => a * b) 1
theorem wt_acc : ∀ (l : List Int) (a : Int), l.foldl (fun a b => a * b) a = a * wt l
  | [], a => (Int.mul_one a).symm
  | b :: l, a => by
    show l.foldl (fun a b => a * b) (a * b) = a * (l.foldl (fun a b => a * b) (1 * b))
    rw [wt_acc l, wt_acc l, Int.one_mul, Int.mul_assoc]
theorem wt_cons (b : Int) (l : List Int) : wt (b :: l) = b * wt l := by
  show l.foldl (fun a b => a * b) (1 * b) = _
  rw [wt_acc, Int.one_mul]
theorem wt_nil : wt [] = 1 := rfl
theorem wt_snoc (l : List Int) (b : Int) : wt (l ++ [b]) = wt l * b := by
  unfold wt; rw [List.foldl_append]; rfl
theorem wt_ne {l : List Int} (h : ∀ b ∈ l, b ≠ 0) : wt l ≠ 0 := by
  induction l with
  | nil => decide
  | cons b l ih => rw [wt_cons]; exact Int.mul_ne_zero (h b (.head _)) (ih fun c hc => h c (.tail _ hc))
theorem wt_abs (l : List Int) : wt (l.map fun b => ((b.natAbs : Nat) : Int)) = ((wt l).natAbs : Nat) := by
  induction l with
  | nil => rfl
  | cons b l ih => rw [List.map_cons, wt_cons, wt_cons, ih, Int.natAbs_mul]; rfl
theorem wt_pos {l : List Int} (h : ∀ b ∈ l, 0 < b) : 0 < wt l := by
  induction l with
  | nil => decide
  | cons b l ih => rw [wt_cons]; exact Int.mul_pos (h b (.head _)) (ih fun c hc => h c (.tail _ hc))
theorem wt_le {l : List Int} (h : ∀ b ∈ l, b.natAbs ≤ 10 ^ 8) : (wt l).natAbs ≤ (10 ^ 8) ^ l.length := by
  induction l with
  | nil => decide
  | cons b l ih =>
    rw [wt_cons, Int.natAbs_mul, List.length_cons, Nat.pow_succ, Nat.mul_comm]
    exact Nat.mul_le_mul (ih fun c hc => h c (.tail _ hc)) (h b (.head _))
theorem tdiv_tdiv (x b c : Int) : (x.tdiv b).tdiv c = x.tdiv (b * c) := by
  have base : ∀ n m k : Nat, ((n : Int).tdiv (m : Int)).tdiv (k : Int) = (n : Int).tdiv ((m : Int) * (k : Int)) := by
    intro n m k
    rw [← Int.natCast_mul, ← Int.ofNat_tdiv, ← Int.ofNat_tdiv, ← Int.ofNat_tdiv, Nat.div_div_eq_div_mul]
  obtain ⟨n, rfl | rfl⟩ := Int.eq_nat_or_neg x <;> obtain ⟨m, rfl | rfl⟩ := Int.eq_nat_or_neg b <;> obtain ⟨k, rfl | rfl⟩ := Int.eq_nat_or_neg c <;>
    simp only [Int.neg_tdiv, Int.tdiv_neg, Int.neg_mul, Int.mul_neg, Int.neg_neg, base]
theorem rst_cons (q : Int → Int → Int) (x b : Int) (l : List Int) : rst q x (b :: l) = rst q (q x b) l := rfl
theorem rst_tdiv (x : Int) (l : List Int) : rst Int.tdiv x l = x.tdiv (wt l) := by
  induction l generalizing x with
  | nil => show x = x.tdiv 1; rw [Int.tdiv_one]
  | cons b l ih => rw [rst_cons, ih, wt_cons, tdiv_tdiv]
theorem rst_fdiv (x : Int) (l : List Int) (h : ∀ b ∈ l, 0 < b) : rst Int.fdiv x l = x.fdiv (wt l) := by
  induction l generalizing x with
  | nil => show x = x.fdiv 1; rw [Int.fdiv_one]
  | cons b l ih =>
    have hb := h b (.head _)
    have hw := wt_pos fun c hc => h c (.tail b hc)
    rw [rst_cons, ih _ fun c hc => h c (.tail _ hc), wt_cons, Int.fdiv_eq_ediv_of_nonneg _ (Int.le_of_lt hb), Int.fdiv_eq_ediv_of_nonneg _ (Int.le_of_lt hw), Int.fdiv_eq_ediv_of_nonneg _ (Int.le_of_lt (Int.mul_pos hb hw)), Int.ediv_ediv_of_nonneg (Int.le_of_lt hb)]
theorem bld_back {r q : Int → Int → Int} (hrq : ∀ a b : Int, r a b + b * q a b = a) (x : Int) (l : List Int) : bld (rst q x l) (digs r q x l) l = x := by
  induction l generalizing x with
  | nil => rfl
  | cons b l ih =>
    show bld (rst q (q x b) l) (digs r q (q x b) l) l * b + r x b = x
    rw [ih, Int.mul_comm, Int.add_comm]; exact hrq x b
theorem bld_lin (r : Int) (ds bs : List Int) (h : ds.length = bs.length) : bld r ds bs = bld 0 ds bs + r * wt bs := by
  induction bs generalizing ds with
  | nil => cases ds with
    | nil => show r = 0 + r * 1; omega
    | cons d ds => cases h
  | cons b bs ih => cases ds with
    | nil => cases h
    | cons d ds =>
      show bld r ds bs * b + d = bld 0 ds bs * b + d + r * wt (b :: bs)
      rw [ih ds (by simpa using h), wt_cons, Int.add_mul, Int.mul_assoc, Int.mul_comm (wt bs) b]
      omega
theorem bldT (x : Int) (l : List Int) : bld (rst Int.tdiv x l) (digs Int.tmod Int.tdiv x l) l = x := bld_back (fun a b => Int.tmod_add_mul_tdiv a b) x l
theorem bldF (x : Int) (l : List Int) : bld (rst Int.fdiv x l) (digs Int.fmod Int.fdiv x l) l = x := bld_back (fun a b => Int.fmod_add_mul_fdiv a b) x l
theorem bldT0 (x : Int) (l : List Int) : bld 0 (digs Int.tmod Int.tdiv x l) l = x.tmod (wt l) := by
  have h := bldT x l
  rw [bld_lin _ _ _ (digs_length ..), rst_tdiv] at h
  have h2 := Int.tmod_add_mul_tdiv x (wt l)
  rw [Int.mul_comm] at h2
  omega
theorem bldF0 (x : Int) (l : List Int) (hp : ∀ b ∈ l, 0 < b) : bld 0 (digs Int.fmod Int.fdiv x l) l = x.fmod (wt l) := by
  have h := bldF x l
  rw [bld_lin _ _ _ (digs_length ..), rst_fdiv x l hp] at h
  have h2 := Int.fmod_add_mul_fdiv x (wt l)
  rw [Int.mul_comm] at h2
  omega
theorem digs_get (r q : Int → Int → Int) (x : Int) (l : List Int) (i : Nat) (h : i < l.length) : (digs r q x l).getD i 0 = r (rst q x (l.take i)) (l.getD i 0) := by
  induction l generalizing x i with
  | nil => cases h
  | cons b l ih =>
    cases i with
    | zero => rfl
    | succ i => exact ih (q x b) i (by simpa using h)
theorem tmod_sign (x W b : Int) : 0 ≤ (x.tdiv W).tmod b * W * x := by
  rw [Int.mul_assoc]
  have key : (0 ≤ W * x → 0 ≤ x.tdiv W) ∧ (W * x ≤ 0 → x.tdiv W ≤ 0) := by
    constructor
    · intro h
      rcases Int.le_total 0 x with hx | hx <;> rcases Int.le_total 0 W with hW | hW
      · exact Int.tdiv_nonneg hx hW
      · by_cases h0 : W * x = 0
        · rcases Int.mul_eq_zero.mp h0 with rfl | rfl <;> simp
        · have := Int.mul_nonpos_of_nonpos_of_nonneg hW hx; omega
      · by_cases h0 : W * x = 0
        · rcases Int.mul_eq_zero.mp h0 with rfl | rfl <;> simp
        · have := Int.mul_nonpos_of_nonneg_of_nonpos hW hx; omega
      · have := Int.tdiv_nonneg (a := -x) (b := -W) (by omega) (by omega)
        rwa [Int.neg_tdiv, Int.tdiv_neg, Int.neg_neg] at this
    · intro h
      rcases Int.le_total 0 x with hx | hx <;> rcases Int.le_total 0 W with hW | hW
      · by_cases h0 : W * x = 0
        · rcases Int.mul_eq_zero.mp h0 with rfl | rfl <;> simp
        · have := Int.mul_nonneg hW hx; omega
      · have := Int.tdiv_nonneg (a := x) (b := -W) (by omega) (by omega)
        rw [Int.tdiv_neg] at this; omega
      · have := Int.tdiv_nonneg (a := -x) (b := W) (by omega) (by omega)
        rw [Int.neg_tdiv] at this; omega
      · by_cases h0 : W * x = 0
        · rcases Int.mul_eq_zero.mp h0 with rfl | rfl <;> simp
        · have := Int.mul_nonneg_of_nonpos_of_nonpos hW hx; omega
  rcases Int.le_total 0 (W * x) with h | h
  · exact Int.mul_nonneg (Int.tmod_nonneg _ (key.1 h)) h
  · refine Int.mul_nonneg_of_nonpos_of_nonpos ?_ h
    have := Int.tmod_nonneg b (a := -(x.tdiv W)) (by have := key.2 h; omega)
    rw [Int.neg_tmod] at this; omega
theorem tmod_lt {y b : Int} (hb : b ≠ 0) : (y.tmod b).natAbs < b.natAbs := by
  have h1 := Int.tmod_lt_of_pos (b := ((b.natAbs : Nat) : Int)) y (by omega)
  have h2 := Int.tmod_lt_of_pos (b := ((b.natAbs : Nat) : Int)) (-y) (by omega)
  have e : ∀ z : Int, z.tmod ((b.natAbs : Nat) : Int) = z.tmod b := by
    intro z
    rcases Int.natAbs_eq b with h | h
    · rw [← h]
    · have hh : ((b.natAbs : Nat) : Int) = -b := by omega
      rw [hh, Int.tmod_neg]
  rw [e] at h1 h2
  rw [Int.neg_tmod] at h2
  omega
theorem fmod_toward {y b : Int} (hb : b ≠ 0) : 0 ≤ (if b > 0 then y.fmod b else -(y.fmod b)) ∧ (if b > 0 then y.fmod b else -(y.fmod b)) < ((b.natAbs : Nat) : Int) := by
  split
  · rename_i h
    exact ⟨Int.fmod_nonneg_of_pos _ h, by have := Int.fmod_lt_of_pos y h; omega⟩
  · have hn : 0 < -b := by omega
    have h1 := Int.fmod_nonneg_of_pos (-y) hn
    have h2 := Int.fmod_lt_of_pos (-y) hn
    rw [Int.neg_fmod_neg] at h1 h2
    omega
theorem fmod_bld {x d w : Int} (h0 : 0 ≤ d) (h1 : d < w) : (x * w + d).fmod w = d ∧ (x * w + d).fdiv w = x := by
  have hw : 0 < w := by omega
  constructor
  · rw [Int.add_comm, Int.add_mul_fmod_self_right, Int.fmod_eq_emod_of_nonneg _ (Int.le_of_lt hw), Int.emod_eq_of_lt h0 h1]
  · rw [Int.add_comm, Int.add_mul_fdiv_right _ _ (by omega), Int.fdiv_eq_ediv_of_nonneg _ (Int.le_of_lt hw), Int.ediv_eq_zero_of_lt h0 h1, Int.zero_add]
theorem tmod_bld {x d w : Int} (hx : 0 ≤ x) (h0 : 0 ≤ d) (h1 : d < w) : (-(x * w + d)).tmod w = -d ∧ (-(x * w + d)).tdiv w = -x := by
  have hw : 0 < w := by omega
  have hz : 0 ≤ x * w + d := Int.add_nonneg (Int.mul_nonneg hx (Int.le_of_lt hw)) h0
  have := fmod_bld (x := x) h0 h1
  rw [Int.fmod_eq_emod_of_nonneg _ (Int.le_of_lt hw), Int.fdiv_eq_ediv_of_nonneg _ (Int.le_of_lt hw)] at this
  rw [Int.neg_tmod, Int.neg_tdiv, Int.tmod_eq_emod_of_nonneg hz, Int.tdiv_eq_ediv_of_nonneg hz, this.1, this.2]
  exact ⟨rfl, rfl⟩
def In1 : List Int → List Int → Prop
  | d :: ds, w :: ws => (0 ≤ d ∧ d < w) ∧ In1 ds ws
  | [], [] => True
  | _, _ => False
theorem madeF (x : Int) : ∀ (ds ws : List Int), In1 ds ws → digs Int.fmod Int.fdiv (bld x ds ws) ws = ds ∧ rst Int.fdiv (bld x ds ws) ws = x
  | [], [], _ => ⟨rfl, rfl⟩
  | d :: ds, w :: ws, h => by
    have ih := madeF x ds ws h.2
    have hb := fmod_bld (x := bld x ds ws) h.1.1 h.1.2
    constructor
    · show Int.fmod (bld x ds ws * w + d) w :: digs Int.fmod Int.fdiv (Int.fdiv (bld x ds ws * w + d) w) ws = _
      rw [hb.1, hb.2, ih.1]
    · show rst Int.fdiv (Int.fdiv (bld x ds ws * w + d) w) ws = x
      rw [hb.2, ih.2]
theorem bld_nonneg {x : Int} (hx : 0 ≤ x) : ∀ (ds ws : List Int), In1 ds ws → 0 ≤ bld x ds ws
  | [], [], _ => hx
  | d :: ds, w :: ws, h => by
    have ih := bld_nonneg hx ds ws h.2
    have hd := h.1.1
    have hw : 0 ≤ w := by have := h.1.2; omega
    exact Int.add_nonneg (Int.mul_nonneg ih hw) hd
theorem madeT {x : Int} (hx : 0 ≤ x) : ∀ (ds ws : List Int), In1 ds ws → digs Int.tmod Int.tdiv (-(bld x ds ws)) ws = ds.map (fun d => -d) ∧ rst Int.tdiv (-(bld x ds ws)) ws = -x
  | [], [], _ => ⟨rfl, rfl⟩
  | d :: ds, w :: ws, h => by
    have ih := madeT hx ds ws h.2
    have hb := tmod_bld (bld_nonneg hx ds ws h.2) h.1.1 h.1.2
    constructor
    · show Int.tmod (-(bld x ds ws * w + d)) w :: digs Int.tmod Int.tdiv (Int.tdiv (-(bld x ds ws * w + d)) w) ws = _
      rw [hb.1, hb.2, ih.1]; rfl
    · show rst Int.tdiv (Int.tdiv (-(bld x ds ws * w + d)) w) ws = -x
      rw [hb.2, ih.2]
theorem bld_size (x : Int) : ∀ (ds ws : List Int), In1 ds ws → (∀ w ∈ ws, w.natAbs ≤ 10 ^ 8) → (bld x ds ws).natAbs + 1 ≤ (x.natAbs + 1) * (10 ^ 8) ^ ws.length
  | [], [], _, _ => by show x.natAbs + 1 ≤ (x.natAbs + 1) * 1; omega
  | d :: ds, w :: ws, h, hw => by
    have ih := bld_size x ds ws h.2 fun c hc => hw c (.tail _ hc)
    have hw1 := hw w (.head _)
    have h1 : (bld x ds ws * w + d).natAbs + 1 ≤ ((bld x ds ws).natAbs + 1) * w.natAbs := by
      have h2 := Int.natAbs_add_le (bld x ds ws * w) d
      rw [Int.natAbs_mul] at h2
      have h3 : d.natAbs + 1 ≤ w.natAbs := by have := h.1.1; have := h.1.2; omega
      rw [Nat.add_mul, Nat.one_mul]
      omega
    show (bld x ds ws * w + d).natAbs + 1 ≤ (x.natAbs + 1) * (10 ^ 8) ^ (ws.length + 1)
    rw [Nat.pow_succ, ← Nat.mul_assoc]
    exact Nat.le_trans h1 (Nat.mul_le_mul ih hw1)
end Mine
end
theorem Mine.calm_M4 : True ∧ True := by
  w_top off
  k_with_none
  (try walk1)
  all_goals trivial
section
open PySem PySem.W PySem.Calls PySem.Spec PyProof.Rows
namespace Mine
theorem Within1.in1 : ∀ {ds ws : List Int}, ds.length = ws.length → Within1 ds ws → In1 ds ws
  | [], [], _, _ => trivial
  | d :: ds, w :: ws, h, hw => ⟨hw 0 d w rfl rfl, Within1.in1 (by simpa using h) fun j d' w' h1 h2 => hw (j + 1) d' w' h1 h2⟩
  | [], _ :: _, h, _ => nomatch h
  | _ :: _, [], h, _ => nomatch h
theorem sm_base {b : Int} (h : b.natAbs ≤ 10 ^ 8) : Sm b := sm_of (10 ^ 8) h
theorem sm_num {x : Int} (h : x.natAbs ≤ 5 * 10 ^ 39) : Sm x := sm_of (5 * 10 ^ 39) h
theorem sm_zero : Sm 0 := sm_of 0 (Nat.le_refl _)
theorem pow_le6 {n : Nat} (h : n ≤ 6) : (10 ^ 8) ^ n ≤ (10 ^ 8) ^ 6 := Nat.pow_le_pow_right (by decide) h
theorem sm_wt {l : List Int} (h : ∀ b ∈ l, b.natAbs ≤ 10 ^ 8) (hl : l.length ≤ 6) : Sm (wt l) :=
  sm_of ((10 ^ 8) ^ 6) (Nat.le_trans (wt_le h) (pow_le6 hl))
theorem sm_bld {x : Int} {ds ws : List Int} (hx : x.natAbs ≤ 5 * 10 ^ 39) (h : In1 ds ws) (hw : ∀ w ∈ ws, w.natAbs ≤ 10 ^ 8) (hl : ws.length ≤ 6) : Sm (bld x ds ws) := by
  refine sm_of ((5 * 10 ^ 39 + 1) * (10 ^ 8) ^ 6) ?_
  have h1 := bld_size x ds ws h hw
  have h2 : (x.natAbs + 1) * (10 ^ 8) ^ ws.length ≤ (5 * 10 ^ 39 + 1) * (10 ^ 8) ^ 6 := Nat.mul_le_mul (Nat.add_le_add_right hx 1) (pow_le6 hl)
  exact Nat.le_trans (Nat.le_trans (Nat.le_succ _) h1) h2
theorem abs_if (b : Int) : (if b < 0 then -b else b) = ((b.natAbs : Nat) : Int) := by split <;> omega
/-- the widths of the bases -/
abbrev wid (bs : List Int) : List Int := bs.map fun b => ((b.natAbs : Nat) : Int)
structure Bases (bs : List Int) : Prop where
  ok : ∀ b ∈ bs, b ≠ 0 ∧ b.natAbs ≤ 10 ^ 8
  six : bs.length ≤ 6
theorem wid_mem {bs : List Int} {w : Int} (h : w ∈ wid bs) (hb : ∀ b ∈ bs, b ≠ 0 ∧ b.natAbs ≤ 10 ^ 8) : 0 < w ∧ w.natAbs ≤ 10 ^ 8 := by
  obtain ⟨b, hb', rfl⟩ := List.mem_map.mp h
  have := hb b hb'
  rw [Int.natAbs_natCast]
  omega
theorem wid_pos {bs : List Int} (hb : ∀ b ∈ bs, b ≠ 0 ∧ b.natAbs ≤ 10 ^ 8) : ∀ w ∈ wid bs, 0 < w := fun _ h => (wid_mem h hb).1
theorem wid_le {bs : List Int} (hb : ∀ b ∈ bs, b ≠ 0 ∧ b.natAbs ≤ 10 ^ 8) : ∀ w ∈ wid bs, w.natAbs ≤ 10 ^ 8 := fun _ h => (wid_mem h hb).2
theorem wid_sm {bs : List Int} (hb : ∀ b ∈ bs, b ≠ 0 ∧ b.natAbs ≤ 10 ^ 8) : ∀ w ∈ wid bs, w ≠ 0 ∧ Sm w := fun _ h => ⟨Int.ne_of_gt (wid_mem h hb).1, sm_base (wid_mem h hb).2⟩
theorem bs_sm {bs : List Int} (hb : ∀ b ∈ bs, b ≠ 0 ∧ b.natAbs ≤ 10 ^ 8) : ∀ b ∈ bs, b ≠ 0 ∧ Sm b := fun _ h => ⟨(hb _ h).1, sm_base (hb _ h).2⟩
theorem wid_log {bs : List Int} {w : Int} (h : w ∈ wid bs) (hb : ∀ b ∈ bs, b ≠ 0 ∧ b.natAbs ≤ 10 ^ 8) : w.natAbs.log2 < 9000 := (sm_base (wid_mem h hb).2).log
end Mine
end
theorem Mine.calm_D6 : True ∧ True := by
  w_top off
  k_with_none
  (try walk1)
  all_goals trivial
section
open PySem PySem.W PySem.Calls PySem.Spec PyProof.Rows
namespace Mine
/-- what is left to show -/
structure Hld (P : Prop) : Prop where
  out : P
/-- a place where the walk rests -/
def Blk (P : Prop) : Prop := P
theorem Blk.rest {P : Prop} (h : Blk P) : P := h
theorem Blk.wake {P : Prop} (h : P) : Blk P := h
theorem range_up1 (n : Nat) : Builtin.Range.rangeSize 0 (n : Int) 1 = (n : Int) := by
  rw [rangeSize_one]
  split <;> omega
def WgPost (h₀ : Heap) (L : Addr) (m₀ : Str → Option Value) (led : List (Addr × Obj)) (W : Int) (s₁ : Shared) (Q : Flow → Shared → Prop) (f : Flow) (s₂ : Shared) : Prop :=
  match f with
  | .ret v => Q (.ret v) s₂
  | .brk => Q .next s₂
  | _ => ∃ h' tk' m' t, s₂ = { s₁ with heap := h', toks := tk' } ∧ Fr h₀ L h' m' ∧ News h₀ L h' led ∧ m' (Str.ofString "weight") = some (.int W t) ∧ (∀ z, z ≠ Str.ofString "place" → z ≠ Str.ofString "weight" → m' z = m₀ z)
theorem wg_end {h₀ : Heap} {L : Addr} {m₀ m' : Str → Option Value} {led : List (Addr × Obj)} {W : Int} {s₁ : Shared} {Q : Flow → Shared → Prop} {h' : Heap} {tk' : Nat} {t2 : Tok}
    (F : Fr h₀ L h' m') (N : News h₀ L h' led) (hm : m' (Str.ofString "weight") = some (.int W t2)) (ho : ∀ z, z ≠ Str.ofString "place" → z ≠ Str.ofString "weight" → m' z = m₀ z) : WgPost h₀ L m₀ led W s₁ Q .next { s₁ with heap := h', toks := tk' } :=
  ⟨h', tk', m', t2, rfl, F, N, hm, ho⟩
def TwPost (h₀ : Heap) (L : Addr) (m₀ : Str → Option Value) (led : List (Addr × Obj)) (s₁ : Shared) (Q : Flow → Shared → Prop) (f : Flow) (s₂ : Shared) : Prop :=
  match f with
  | .ret v => Q (.ret v) s₂
  | .brk => Q .next s₂
  | _ => ∃ h' tk' m', s₂ = { s₁ with heap := h', toks := tk' } ∧ Fr h₀ L h' m' ∧ News h₀ L h' led ∧ (∀ z, z ≠ Str.ofString "place" → z ≠ Str.ofString "toward" → m' z = m₀ z)
theorem tw_end {h₀ : Heap} {L : Addr} {m₀ m' : Str → Option Value} {led : List (Addr × Obj)} {s₁ : Shared} {Q : Flow → Shared → Prop} {h' : Heap} {tk' : Nat}
    (F : Fr h₀ L h' m') (N : News h₀ L h' led) (ho : ∀ z, z ≠ Str.ofString "place" → z ≠ Str.ofString "toward" → m' z = m₀ z) : TwPost h₀ L m₀ led s₁ Q .next { s₁ with heap := h', toks := tk' } :=
  ⟨h', tk', m', rfl, F, N, ho⟩
section
variable {prog : Program} {w : World} {A : Around} {E : Value → Shared → Prop} {s : Shared} {env : Env} {h₀ : Heap} {body : List Stmt} {Q : Flow → Shared → Prop}
theorem wg_range {rr : Addr} {bs : List Int} {m₀ : Str → Option Value} {news : List (Addr × Obj)} {t0 t1 t2 t3 : Tok}
    (hh : A.handled = none) (hr : IsRange s.heap rr 0 (bs.length : Int) 1 t1 t2 t3)
    (F : Fr h₀ env.locals s.heap m₀) (N : News h₀ env.locals s.heap news) (hnum : m₀ (Str.ofString "weight") = some (.int 1 t0)) (hlen : bs.length ≤ 64)
    (turn : ∀ (k : Int) (tb tk : Tok) (h : Heap) (tk' : Nat) (own : List (Addr × Obj)), 0 ≤ k → k < (bs.length : Int) → k < 2 ^ 62 →
      Fr h₀ env.locals h (fun z => if z = Str.ofString "place" then some (.int k tb) else if z = Str.ofString "weight" then some (.int (wt (bs.take k.toNat)) tk) else m₀ z) → News h₀ env.locals h (news ++ own) →
      wpAny (model prog w) A (execs body env) (WgPost h₀ env.locals m₀ (news ++ own) (wt (bs.take k.toNat) * bs.getD k.toNat 0) { s with heap := h, toks := tk' } Q) E { s with heap := h, toks := tk' })
    (done : ∀ (tk : Tok) (u : Str → Option Value) (h : Heap) (tk' : Nat),
      Fr h₀ env.locals h (fun z => if z = Str.ofString "place" then u z else if z = Str.ofString "weight" then some (.int (wt bs) tk) else m₀ z) → News h₀ env.locals h news → Q .next { s with heap := h, toks := tk' }) :
    wpAny (model prog w) A (pyIter (.ref rr)) (fun it s₂ => LoopAtV prog w A h₀ env (Str.ofString "place") body Q E it s₂) E s := by
  refine kst_range (σ := BdS) (n := bs.length) (fun (_ : BdS) => news) (fun (c : BdS) => [(Str.ofString "weight", .int c.num c.tk)]) (fun _ => True) []
    (fun (pre : List Int) (c : BdS) => c.num = wt (bs.take pre.length)) ⟨t0, 1⟩ hh hr (small_one (by omega) (by omega) (by omega) (by omega)) (range_up1 _) F N trivial ?_ rfl ?_ ?_
  · intro p hp
    rcases List.mem_cons.mp hp with rfl | hp
    · exact hnum
    · cases hp
  · rintro ⟨tk, num⟩ pre k tb u h tk' own hk hlt hown _ hnum' F₁ N₁
    dsimp only at hnum'
    have hk0 : k.toNat = pre.length := by omega
    have hkb : k.toNat < bs.length := by omega
    rw [← hk0] at hnum'
    subst hnum'
    have F₂ : Fr h₀ env.locals h (fun z => if z = Str.ofString "place" then some (.int k tb) else if z = Str.ofString "weight" then some (.int (wt (bs.take k.toNat)) tk) else m₀ z) := by
      refine fr_eq F₁ fun y => ?_
      simp [kstB]
    refine wpAny_mono (turn k tb tk h tk' own (by omega) (by omega) (by omega) F₂ N₁) (fun f s₂ p => ?_) fun _ _ x => x
    have up : (∃ h' tk'' m' t, s₂ = { s with heap := h', toks := tk'' } ∧ Fr h₀ env.locals h' m' ∧ News h₀ env.locals h' (news ++ own) ∧ m' (Str.ofString "weight") = some (.int (wt (bs.take k.toNat) * bs.getD k.toNat 0) t) ∧ (∀ z, z ≠ Str.ofString "place" → z ≠ Str.ofString "weight" → m' z = m₀ z)) →
        InvEndN h₀ env.locals (KstS (fun (_ : BdS) => news) (fun (c : BdS) => [(Str.ofString "weight", .int c.num c.tk)]) (fun _ => True) (Str.ofString "place") [] m₀
          (fun (pre : List Int) (c : BdS) => c.num = wt (bs.take pre.length)) (pre ++ [k])) own (((fun (_ : BdS) => news) ⟨t0, 1⟩).map (·.1)) { s with heap := h, toks := tk' } s₂ := by
      rintro ⟨h', tk'', m', t', rfl, F', N', hm', ho'⟩
      refine kst_end (σ := BdS) ⟨t', wt (bs.take k.toNat) * bs.getD k.toNat 0⟩ F' N' (fun p hp => List.mem_append_left _ hp) (fun p hp => List.mem_append_right _ hp) rfl trivial ?_ ?_ ?_
      · intro p hp
        rcases List.mem_cons.mp hp with rfl | hp
        · exact hm'
        · cases hp
      · intro z h1 h2 _
        exact ho' z h1 (h2 _ (.head _))
      · show wt _ * _ = wt _
        rw [List.length_append, List.length_singleton, ← hk0, List.take_add_one, List.getElem?_eq_getElem hkb, Option.toList_some, wt_snoc, List.getD_eq_getElem?_getD, List.getElem?_eq_getElem hkb]
        rfl
    cases f with
    | ret v => exact p
    | brk => exact p
    | next => exact up p
    | cont => exact up p
  · rintro ⟨tk, num⟩ u h tk' _ hnum' F₁ N₁
    dsimp only at hnum'
    rw [rangeKs_length, List.take_length] at hnum'
    subst hnum'
    refine done tk u h tk' ?_ N₁
    refine fr_eq F₁ fun y => ?_
    simp [kstB]
theorem tw_range {rr : Addr} {bs : List Int} {m₀ : Str → Option Value} {news : List (Addr × Obj)} {t1 t2 t3 : Tok}
    (hh : A.handled = none) (hr : IsRange s.heap rr 0 (bs.length : Int) 1 t1 t2 t3)
    (F : Fr h₀ env.locals s.heap m₀) (N : News h₀ env.locals s.heap news) (hlen : bs.length ≤ 64)
    (turn : ∀ (k : Int) (tb : Tok) (u : Str → Option Value) (h : Heap) (tk' : Nat) (own : List (Addr × Obj)), 0 ≤ k → k < (bs.length : Int) → k < 2 ^ 62 →
      Fr h₀ env.locals h (fun z => if z = Str.ofString "place" then some (.int k tb) else if z = Str.ofString "toward" then u z else m₀ z) → News h₀ env.locals h (news ++ own) →
      wpAny (model prog w) A (execs body env) (TwPost h₀ env.locals m₀ (news ++ own) { s with heap := h, toks := tk' } Q) E { s with heap := h, toks := tk' })
    (done : ∀ (u : Str → Option Value) (h : Heap) (tk' : Nat),
      Fr h₀ env.locals h (fun z => if z = Str.ofString "place" then u z else if z = Str.ofString "toward" then u z else m₀ z) → News h₀ env.locals h news → Q .next { s with heap := h, toks := tk' }) :
    wpAny (model prog w) A (pyIter (.ref rr)) (fun it s₂ => LoopAtV prog w A h₀ env (Str.ofString "place") body Q E it s₂) E s := by
  refine kst_range (σ := Unit) (n := bs.length) (fun (_ : Unit) => news) (fun (_ : Unit) => []) (fun _ => True) [Str.ofString "toward"]
    (fun _ _ => True) () hh hr (small_one (by omega) (by omega) (by omega) (by omega)) (range_up1 _) F N trivial ?_ trivial ?_ ?_
  · intro p hp
    cases hp
  · rintro c pre k tb u h tk' own hk hlt hown _ _ F₁ N₁
    have F₂ : Fr h₀ env.locals h (fun z => if z = Str.ofString "place" then some (.int k tb) else if z = Str.ofString "toward" then u z else m₀ z) := by
      refine fr_eq F₁ fun y => ?_
      simp only [kstB, one_has]
    refine wpAny_mono (turn k tb u h tk' own (by omega) (by omega) (by omega) F₂ N₁) (fun f s₂ p => ?_) fun _ _ x => x
    have up : (∃ h' tk'' m', s₂ = { s with heap := h', toks := tk'' } ∧ Fr h₀ env.locals h' m' ∧ News h₀ env.locals h' (news ++ own) ∧ (∀ z, z ≠ Str.ofString "place" → z ≠ Str.ofString "toward" → m' z = m₀ z)) →
        InvEndN h₀ env.locals (KstS (fun (_ : Unit) => news) (fun (_ : Unit) => []) (fun _ => True) (Str.ofString "place") [Str.ofString "toward"] m₀
          (fun _ _ => True) (pre ++ [k])) own (((fun (_ : Unit) => news) ()).map (·.1)) { s with heap := h, toks := tk' } s₂ := by
      rintro ⟨h', tk'', m', rfl, F', N', ho'⟩
      refine kst_end (σ := Unit) () F' N' (fun p hp => List.mem_append_left _ hp) (fun p hp => List.mem_append_right _ hp) rfl trivial ?_ ?_ trivial
      · intro p hp
        cases hp
      · intro z h1 _ h3
        exact ho' z h1 (fun e => by subst e; exact absurd h3 (by decide))
    cases f with
    | ret v => exact p
    | brk => exact p
    | next => exact up p
    | cont => exact up p
  · rintro c u h tk' _ _ F₁ N₁
    refine done u h tk' ?_ N₁
    refine fr_eq F₁ fun y => ?_
    simp only [kstB, one_has]
end
end Mine
end
theorem Mine.calm_M5 : True ∧ True := by
  w_top off
  k_with_none
  (try walk1)
  all_goals trivial
section
open PySem PySem.W PySem.Calls PySem.Spec PyProof.Rows
namespace Mine
theorem getD_mem {l : List Int} {i : Nat} (h : i < l.length) : l.getD i 0 ∈ l := by
  rw [List.getD_eq_getElem?_getD, List.getElem?_eq_getElem h]
  exact List.getElem_mem _
theorem wid_get {bs : List Int} {i : Nat} (h : i < bs.length) : (wid bs).getD i 0 = (((bs.getD i 0).natAbs : Nat) : Int) := by
  rw [List.getD_eq_getElem?_getD, List.getD_eq_getElem?_getD, List.getElem?_map, List.getElem?_eq_getElem h]
  rfl
theorem six_of {n : Nat} {b : Int} (h : n = (1 + b).toNat) (h2 : b < 6) : n ≤ 6 := by omega
structure LawIn (x : Int) (bs ds : List Int) : Prop where
  num : x.natAbs ≤ 5 * 10 ^ 39
  ok : ∀ b ∈ bs, b ≠ 0 ∧ b.natAbs ≤ 10 ^ 8
  six : bs.length ≤ 6
  dl : ds.length = (wid bs).length
  din : Within1 ds (wid bs)
structure Turn2 (x : Int) (bs : List Int) (k : Int) : Prop where
  p1 : 0 < bs.getD k.toNat 0 → (digs Int.fmod Int.fdiv x bs).getD k.toNat 0 < 0 → False
  p2 : 0 < bs.getD k.toNat 0 → (wid bs).getD k.toNat 0 ≤ (digs Int.fmod Int.fdiv x bs).getD k.toNat 0 → False
  n1 : ¬ 0 < bs.getD k.toNat 0 → -(digs Int.fmod Int.fdiv x bs).getD k.toNat 0 < 0 → False
  n2 : ¬ 0 < bs.getD k.toNat 0 → (wid bs).getD k.toNat 0 ≤ -(digs Int.fmod Int.fdiv x bs).getD k.toNat 0 → False
namespace LawIn
variable {x : Int} {bs ds : List Int}
theorem sx (h : LawIn x bs ds) : Sm x := sm_num h.num
theorem sax (h : LawIn x bs ds) : Sm ((x.natAbs : Nat) : Int) := sm_num (by rw [Int.natAbs_natCast]; exact h.num)
theorem bsm (h : LawIn x bs ds) : ∀ b ∈ bs, b ≠ 0 ∧ Sm b := bs_sm h.ok
theorem bmul (h : LawIn x bs ds) : ∀ b ∈ bs, b.natAbs ≤ 10 ^ 8 := fun _ hb => (h.ok _ hb).2
theorem wsm (h : LawIn x bs ds) : ∀ b ∈ wid bs, b ≠ 0 ∧ Sm b := wid_sm h.ok
theorem wmul (h : LawIn x bs ds) : ∀ b ∈ wid bs, b.natAbs ≤ 10 ^ 8 := wid_le h.ok
theorem wl (_ : LawIn x bs ds) : (wid bs).length = bs.length := List.length_map _
theorem b64 (h : LawIn x bs ds) : bs.length ≤ 64 := Nat.le_trans h.six (by decide)
theorem w64 (h : LawIn x bs ds) : (wid bs).length ≤ 64 := by rw [h.wl]; exact h.b64
theorem d64 (h : LawIn x bs ds) : ds.length ≤ 64 := by rw [h.dl]; exact h.w64
theorem in1 (h : LawIn x bs ds) : In1 ds (wid bs) := h.din.in1 h.dl
theorem swt (h : LawIn x bs ds) : Sm (wt bs) := sm_wt h.bmul h.six
theorem wt0 (h : LawIn x bs ds) : wt bs ≠ 0 := wt_ne fun b hb => (h.ok b hb).1
/-- the turn of the first loop -/
theorem turn1 (h : LawIn x bs ds) {k : Int} (h0 : 0 ≤ k) (h1 : k < (bs.length : Int)) :
    (¬ (wid bs).getD k.toNat 0 ≤ (if (digs Int.tmod Int.tdiv x bs).getD k.toNat 0 < 0 then -(digs Int.tmod Int.tdiv x bs).getD k.toNat 0 else (digs Int.tmod Int.tdiv x bs).getD k.toNat 0)) ∧
    (¬ (digs Int.tmod Int.tdiv x bs).getD k.toNat 0 * wt (bs.take k.toNat) * x < 0) ∧ Sm ((digs Int.tmod Int.tdiv x bs).getD k.toNat 0) ∧ Sm (wt (bs.take k.toNat)) ∧ Sm ((digs Int.tmod Int.tdiv x bs).getD k.toNat 0 * wt (bs.take k.toNat)) ∧ Sm (bs.getD k.toNat 0) := by
  have hk : k.toNat < bs.length := by omega
  have hb := h.ok _ (getD_mem hk)
  have hd : (digs Int.tmod Int.tdiv x bs).getD k.toNat 0 = (x.tdiv (wt (bs.take k.toNat))).tmod (bs.getD k.toNat 0) := by rw [digs_get _ _ _ _ _ hk, rst_tdiv]
  have hlt : ((digs Int.tmod Int.tdiv x bs).getD k.toNat 0).natAbs < (bs.getD k.toNat 0).natAbs := by rw [hd]; exact tmod_lt hb.1
  have hw : (wt (bs.take k.toNat)).natAbs ≤ (10 ^ 8) ^ 6 := Nat.le_trans (wt_le fun b hbm => h.bmul b (List.mem_of_mem_take hbm)) (pow_le6 (by rw [List.length_take]; have := h.six; omega))
  refine ⟨?_, ?_, ?_, ?_, ?_, sm_base hb.2⟩
  · rw [wid_get hk, abs_if]; omega
  · rw [hd]; exact Int.not_lt.mpr (tmod_sign _ _ _)
  · exact sm_base (by omega)
  · exact sm_of ((10 ^ 8) ^ 6) hw
  · refine sm_of (10 ^ 8 * (10 ^ 8) ^ 6) ?_
    rw [Int.natAbs_mul]
    exact Nat.mul_le_mul (by omega) hw
theorem turn2 (h : LawIn x bs ds) {k : Int} (h0 : 0 ≤ k) (h1 : k < (bs.length : Int)) :
    (0 < bs.getD k.toNat 0 → ¬ (digs Int.fmod Int.fdiv x bs).getD k.toNat 0 < 0 ∧ ¬ (wid bs).getD k.toNat 0 ≤ (digs Int.fmod Int.fdiv x bs).getD k.toNat 0) ∧
    (¬ 0 < bs.getD k.toNat 0 → ¬ -(digs Int.fmod Int.fdiv x bs).getD k.toNat 0 < 0 ∧ ¬ (wid bs).getD k.toNat 0 ≤ -(digs Int.fmod Int.fdiv x bs).getD k.toNat 0) := by
  have hk : k.toNat < bs.length := by omega
  have hb := h.ok _ (getD_mem hk)
  rw [digs_get _ _ _ _ _ hk, wid_get hk]
  have := fmod_toward (y := rst Int.fdiv x (bs.take k.toNat)) hb.1
  constructor
  · intro hp; rw [if_pos hp] at this; exact ⟨Int.not_lt.mpr this.1, Int.not_le.mpr this.2⟩
  · intro hp; rw [if_neg hp] at this; exact ⟨Int.not_lt.mpr this.1, Int.not_le.mpr this.2⟩
theorem turnM (h : LawIn x bs ds) {k : Int} (h0 : 0 ≤ k) (h1 : k < (bs.length : Int)) : Turn2 x bs k :=
  ⟨fun p => ((h.turn2 h0 h1).1 p).1, fun p => ((h.turn2 h0 h1).1 p).2, fun p => ((h.turn2 h0 h1).2 p).1, fun p => ((h.turn2 h0 h1).2 p).2⟩
theorem prod (h : LawIn x bs ds) : (if wt bs < 0 then -wt bs else wt bs) = wt (wid bs) := by rw [abs_if, wt_abs]
theorem sprod (h : LawIn x bs ds) : Sm (wt (wid bs)) := by rw [← h.prod]; exact h.swt.abs
theorem prod0 (h : LawIn x bs ds) : wt (wid bs) ≠ 0 := Int.ne_of_gt (wt_pos (wid_pos h.ok))
theorem made1 (h : LawIn x bs ds) : Sm (bld x ds (wid bs)) := sm_bld h.num h.in1 h.wmul (by rw [h.wl]; exact h.six)
theorem made2 (h : LawIn x bs ds) : Sm (-(bld ((x.natAbs : Nat) : Int) ds (wid bs))) := (sm_bld (by rw [Int.natAbs_natCast]; exact h.num) h.in1 h.wmul (by rw [h.wl]; exact h.six)).neg
theorem facts1 (_ : LawIn x bs ds) : bld (rst Int.tdiv x bs) (digs Int.tmod Int.tdiv x bs) bs = x ∧ rst Int.tdiv x bs = x.tdiv (wt bs) ∧ bld 0 (digs Int.tmod Int.tdiv x bs) bs = x.tmod (wt bs) := ⟨bldT x bs, rst_tdiv x bs, bldT0 x bs⟩
theorem facts2 (_ : LawIn x bs ds) : bld (rst Int.fdiv x bs) (digs Int.fmod Int.fdiv x bs) bs = x ∧ True := ⟨bldF x bs, trivial⟩
theorem facts3 (h : LawIn x bs ds) : rst Int.fdiv x (wid bs) = x.fdiv (if wt bs < 0 then -wt bs else wt bs) ∧ bld 0 (digs Int.fmod Int.fdiv x (wid bs)) (wid bs) = x.fmod (if wt bs < 0 then -wt bs else wt bs) ∧ (if wt bs < 0 then -wt bs else wt bs) ≠ 0 := by
  rw [h.prod]
  exact ⟨rst_fdiv x _ (wid_pos h.ok), bldF0 x _ (wid_pos h.ok), h.prod0⟩
theorem facts4 (h : LawIn x bs ds) : digs Int.fmod Int.fdiv (bld x ds (wid bs)) (wid bs) = ds ∧ rst Int.fdiv (bld x ds (wid bs)) (wid bs) = x ∧ Sm (bld x ds (wid bs)) := ⟨(madeF x ds _ h.in1).1, (madeF x ds _ h.in1).2, h.made1⟩
theorem facts5 (h : LawIn x bs ds) : digs Int.tmod Int.tdiv (-(bld (if x < 0 then -x else x) ds (wid bs))) (wid bs) = ds.map (fun d => -d) ∧ rst Int.tdiv (-(bld (if x < 0 then -x else x) ds (wid bs))) (wid bs) = -(if x < 0 then -x else x) ∧ Sm (-(bld (if x < 0 then -x else x) ds (wid bs))) := by
  rw [abs_if]
  exact ⟨(madeT (Int.natCast_nonneg _) ds _ h.in1).1, (madeT (Int.natCast_nonneg _) ds _ h.in1).2, h.made2⟩
end LawIn
end Mine
end
theorem Mine.calm_D7 : True ∧ True := by
  w_top off
  k_with_none
  (try walk1)
  all_goals trivial
section
open PySem PySem.W PySem.Calls PySem.Spec PyProof.Rows
namespace Mine
theorem lt_up {l : List (Addr × Obj)} {d t : Addr} {o : Obj} (h : ∀ p ∈ l, p.1 < d) (h2 : d < t) : ∀ p ∈ (d, o) :: l, p.1 < t := by
  intro p hp
  rcases List.mem_cons.mp hp with rfl | hp
  · exact h2
  · exact Nat.lt_trans (h p hp) h2
section
variable {prog : Program} {w : World} {A : Around} {E : Value → Shared → Prop} {s : Shared} {h₀ : Heap} {L : Addr}
theorem reads_pair {a dl : Addr} {o : Obj} {n nd : Nat} {dvs : List Value} {ds : List Int} {r : Int} {t : Tok} {news : List (Addr × Obj)} (N : News h₀ L s.heap news) (ma : (a, o) ∈ news) (hc : o.cls = .type "tuple") (hd : o.data = .seq #[.ref dl, .int r t] n)
    (md : (dl, listOf dvs.toArray nd) ∈ news) (hI : IntsAre dvs ds) : ∃ as, Reads s.heap (.ref a) (.tuple [.list (ds.map PyData.int), .int r]) as :=
  ⟨_, reads_tuple_at (N.get ma) hc hd (.cons (reads_newData (PySem.IsL.isList (n := nd) (N _ md).1) (ke_carried hI)) (.cons (.int r t) .nil))⟩
theorem pair_shaped (ds : List Int) (r : Int) : SeqAt.shaped (.tuple [.list (ds.map PyData.int), .int r]) = true := by
  simp [SeqAt.shaped, PyData.canLay0, PyData.canLayAll0, PyData.depth, PyData.depthAll, ke_canLayAll0, ke_depthAll]
theorem pair_ne {a b dl el : Addr} {oa ob : Obj} {na nb nd ne : Nat} {dvs evs : List Value} {ds es : List Int} {r q : Int} {ta tb : Tok} {news : List (Addr × Obj)} {Q : Value → Shared → Prop}
    (N : News h₀ L s.heap news) (ma : (a, oa) ∈ news) (ca : oa.cls = .type "tuple") (da : oa.data = .seq #[.ref dl, .int r ta] na) (md : (dl, listOf dvs.toArray nd) ∈ news) (hI : IntsAre dvs ds)
    (mb : (b, ob) ∈ news) (cb : ob.cls = .type "tuple") (db : ob.data = .seq #[.ref el, .int q tb] nb) (me : (el, listOf evs.toArray ne) ∈ news) (hJ : IntsAre evs es) (hu : A.units + 64 < cLine)
    (hds : ds = es) (hrq : r = q) (h : Q (.bool false) s) : wpAny (model prog w) A (compareOp .NotEq (.ref a) (.ref b)) Q E s := by
  obtain ⟨as, ra⟩ := reads_pair N ma ca da md hI
  obtain ⟨bs, rb⟩ := reads_pair N mb cb db me hJ
  subst hds hrq
  refine ne_dataH ra rb (pair_shaped _ _) (pair_shaped _ _) hu ?_
  have e : PyData.eqv (.tuple [.list (ds.map PyData.int), .int r]) (.tuple [.list (ds.map PyData.int), .int r]) = true := by
    simp [PyData.eqv, PyData.eqvAll, ked_eqvAll]
  rw [e]
  exact h
end
end Mine
end
theorem Mine.calm_S1 : True ∧ True := by
  w_top off
  k_with_none
  (try walk1)
  all_goals trivial
section
open PySem PySem.W PySem.Calls PySem.Spec PyProof.Rows
namespace Mine
def s1 : { P : Prop // Hld P → PySem.Challenge.rw_rh0067_01.Holds } := by
  k_with_none
  k_with "own eval Call" => (k_dflt (refine Call_ ?_))
  k_with "own all" => first | (with_reducible exact List.forall_mem_nil _) | with_reducible assumption | ((with_reducible refine' all_app ?zzka ?zzkb); (case zzka => first | exact SymSt.Off.at (by with_reducible assumption) (by k_mem) | exact away_lt (by with_reducible assumption) | exact away_al (by with_reducible assumption) | exact away_al (And.right (by with_reducible assumption)) | exact away_al (And.right (And.right (by with_reducible assumption))) | exact away_al (And.right (And.right (And.right (by with_reducible assumption)))) | exact away_al (And.right (And.right (And.right (And.right (by with_reducible assumption))))) | exact away_al (And.right (And.right (And.right (And.right (And.right (by with_reducible assumption)))))) | exact away_al (And.right (And.right (And.right (And.right (And.right (And.right (by with_reducible assumption))))))) | exact away_al (And.right (And.right (And.right (And.right (And.right (And.right (And.right (by with_reducible assumption)))))))) | exact away_al (And.right (And.right (And.right (And.right (And.right (And.right (And.right (And.right (by with_reducible assumption))))))))) | exact away_al (And.right (And.right (And.right (And.right (And.right (And.right (And.right (And.right (And.right (by with_reducible assumption)))))))))) | exact away_al (And.right (And.right (And.right (And.right (And.right (And.right (And.right (And.right (And.right (And.right (by with_reducible assumption))))))))))) | exact away_al (And.right (And.right (And.right (And.right (And.right (And.right (And.right (And.right (And.right (And.right (And.right (by with_reducible assumption))))))))))))); (case zzkb => exact List.forall_mem_nil _))
  k_with "own call ref" => ((with_reducible show wpAny _ _ (call (Value.ref 154) _) _ _ _); k_dflt (refine' wpAny_wk ?zzw1 ?zzw2 ?zzw3 ?zzw4 ?zzw5 (symbols_spec _ _ _ _ _ _ _ _ _ _ _ _ _ _ _ ?zzB ?zzF ?zzX ?zzT ?zzhk ?zzN  ?_); (case zzB => k_asm); (case zzF => k_asm); (case zzN => k_asm); (case zzw3 => exact rfl); (case zzX => k_asm); (case zzT => k_asm); (case zzhk => first | exact rfl | assumption); (case zzw1 => exact rfl); (case zzw2 => exact Nat.le_of_ble_eq_true rfl); (case zzw4 => exact rfl); (case zzw5 => exact Nat.le_of_ble_eq_true rfl)); intro _ _ _ _ _ _ _ _ N'; (replace N' := led_swap N'); (simp only [List.cons_append, List.nil_append] at N'); (try dsimp only); (try k_sweep))
  k_with "own call ref" => ((with_reducible show wpAny _ _ (call (Value.ref 207) [Value.ref _, Value.int _ _]) _ _ _); k_dflt (refine' wpAny_wk ?zzw1 ?zzw2 ?zzw3 ?zzw4 ?zzw5 (drawL_spec _ _ _ _ _ _ _ _ _ _ _ _ _ _ _ _ _ _ _ _ _ _ _ _ _ _ _ _ _ _ _ ?zzB ?zzF ?zzX ?zzT ?zzhk ?zzN ?zzhp1 ?zzhp2 ?zzhI ?zzhl ?zzhqp ?zzhne ?zzhi ?zzh0 ?zzhlb ?_); (case zzB => k_asm); (case zzF => k_asm); (case zzN => k_asm); (case zzw3 => exact rfl); (case zzX => k_asm); (case zzT => k_asm); (case zzhk => first | exact rfl | assumption); (case zzw1 => exact rfl); (case zzw2 => exact Nat.le_of_ble_eq_true rfl); (case zzw4 => exact rfl); (case zzw5 => exact Nat.le_of_ble_eq_true rfl); (case zzhp1 => with_reducible first | exact Pull.p0 | exact Pull.p1 | exact Pull.p2 | exact Pull.p3 | exact Pull.p4 | exact Pull.p5 | exact Pull.p6 | exact Pull.p7); (case zzhp2 => with_reducible first | exact Pull.p0 | exact Pull.p1 | exact Pull.p2 | exact Pull.p3 | exact Pull.p4 | exact Pull.p5 | exact Pull.p6 | exact Pull.p7); (case zzhI => with_reducible assumption); (case zzhl => first | assumption | (simp only [List.length_take]; omega) | omega); (case zzhqp => first | k_ne | omega); (case zzhne => k_all); (case zzhi => first | decide | omega); (case zzh0 => first | decide | omega); (case zzhlb => first | decide +kernel | assumption)); intro _ _ _ _ _ _ _ _ _ _ _ _ _ _ _ _; (try dsimp only); (try k_sweep))
  k_with "own call ref" => ((with_reducible show wpAny _ _ (call (Value.ref 214) [Value.ref _]) _ _ _); k_dflt (refine' wpAny_wk ?zzw1 ?zzw2 ?zzw3 ?zzw4 ?zzw5 (wholeL_spec _ _ _ _ _ _ _ _ _ _ _ _ _ _ _ _ _ _ _ _ _ _ _ _ _ _ _ _ _ ?zzB ?zzF ?zzX ?zzT ?zzhk ?zzN ?zzhp1 ?zzhp2 ?zzhI ?zzhl ?zzhqp ?zzhne ?zzhi ?_); (case zzB => k_asm); (case zzF => k_asm); (case zzN => k_asm); (case zzw3 => exact rfl); (case zzX => k_asm); (case zzT => k_asm); (case zzhk => first | exact rfl | assumption); (case zzw1 => exact rfl); (case zzw2 => exact Nat.le_of_ble_eq_true rfl); (case zzw4 => exact rfl); (case zzw5 => exact Nat.le_of_ble_eq_true rfl); (case zzhp1 => with_reducible first | exact Pull.p0 | exact Pull.p1 | exact Pull.p2 | exact Pull.p3 | exact Pull.p4 | exact Pull.p5 | exact Pull.p6 | exact Pull.p7); (case zzhp2 => with_reducible first | exact Pull.p0 | exact Pull.p1 | exact Pull.p2 | exact Pull.p3 | exact Pull.p4 | exact Pull.p5 | exact Pull.p6 | exact Pull.p7); (case zzhI => with_reducible assumption); (case zzhl => first | assumption | (simp only [List.length_take]; omega) | omega); (case zzhqp => first | k_ne | omega); (case zzhne => k_all); (case zzhi => first | decide | omega)); intro _ _ _ _ _ _ _ _ _ _ _ _ _ _ _; (try dsimp only); (try k_sweep))
  k_with "own call ref" => ((with_reducible show wpAny _ _ (call (Value.ref 221) [Value.ref _]) _ _ _); k_dflt (refine' wpAny_wk ?zzw1 ?zzw2 ?zzw3 ?zzw4 ?zzw5 (radixL_spec _ _ _ _ _ _ _ _ _ _ _ _ _ _ _ _ _ _ _ _ _ _ _ _ _ _ _ _ _ ?zzB ?zzF ?zzX ?zzT ?zzhk ?zzN ?zzhp1 ?zzhp2 ?zzhI ?zzhl ?zzhqp ?zzhne ?zzhi ?_); (case zzB => k_asm); (case zzF => k_asm); (case zzN => k_asm); (case zzw3 => exact rfl); (case zzX => k_asm); (case zzT => k_asm); (case zzhk => first | exact rfl | assumption); (case zzw1 => exact rfl); (case zzw2 => exact Nat.le_of_ble_eq_true rfl); (case zzw4 => exact rfl); (case zzw5 => exact Nat.le_of_ble_eq_true rfl); (case zzhp1 => with_reducible first | exact Pull.p0 | exact Pull.p1 | exact Pull.p2 | exact Pull.p3 | exact Pull.p4 | exact Pull.p5 | exact Pull.p6 | exact Pull.p7); (case zzhp2 => with_reducible first | exact Pull.p0 | exact Pull.p1 | exact Pull.p2 | exact Pull.p3 | exact Pull.p4 | exact Pull.p5 | exact Pull.p6 | exact Pull.p7); (case zzhI => with_reducible assumption); (case zzhl => first | assumption | (simp only [List.length_take]; omega) | omega); (case zzhqp => first | k_ne | omega); (case zzhne => k_all); (case zzhi => first | decide | omega)); intro _ _ _ _ _ _ _ _ _ _ _ _ _ _ _ _; (try dsimp only); (try k_sweep))
  k_with "own CompSrc" => (k_dflt (refine' bases_src ?zzhh ?zzF ?zzN ?zzhr ?zzhb ?zzhb2 ?zzhj ?_ ?_; (case zzF => k_asm); (case zzN => k_asm); (case zzhh => exact rfl); (case zzhr => assumption); (case zzhb => omega); (case zzhb2 => omega); (case zzhj => assumption)); ((intro _ _ _ _ _ _ _ _ _ _ _ _ _ _ _ _ _ _ _ _ _ _ _ _ _ _ _ _ _ _ _ _ _; (try k_sweep))); rotate_left; ((intro _ _ _ _ _ _ _ _ _ _ _ _ _ _; (try k_sweep))); rotate_right)
  k_with "own CompSrc" => ((with_reducible show LCg.CompSrc _ _ _ _ _ _ _ (Expr.Call (Expr.Name (Str.ofString "abs") _) _ _ _) _ _ _ _ _ _); k_dflt (refine' map_src (fun b => ((b.natAbs : Nat) : Int)) ?zzhh ?zzF ?zzN ?zzhm ?zzhI ?zzhlen ?_ ?_; (case zzF => k_asm); (case zzN => k_asm); (case zzhh => exact rfl); (case zzhm => k_mem); (case zzhI => with_reducible assumption); (case zzhlen => omega)); ((intro _ _ _ _ _ _ _ _ _ _ _ _ _ _ _ _ _ _; (try k_sweep))); rotate_left; ((intro _ _ _; (try k_sweep))); rotate_right)
  k_with "own CompSrc" => ((with_reducible show LCg.CompSrc _ _ _ _ _ _ _ (Expr.Call (Expr.Name (Str.ofString "_law_draw") _) _ _ _) _ _ _ _ _ _); k_dflt (refine' drawn_src ?zzhh ?zzF ?zzN ?zzhp1 ?zzhp2 ?zzhm ?zzhI ?zzhlen ?zzhj ?_ ?_; (case zzF => k_asm); (case zzN => k_asm); (case zzhh => exact rfl); (case zzhp1 => with_reducible first | exact Pull.p0 | exact Pull.p1 | exact Pull.p2 | exact Pull.p3 | exact Pull.p4 | exact Pull.p5 | exact Pull.p6 | exact Pull.p7); (case zzhp2 => with_reducible first | exact Pull.p0 | exact Pull.p1 | exact Pull.p2 | exact Pull.p3 | exact Pull.p4 | exact Pull.p5 | exact Pull.p6 | exact Pull.p7); (case zzhm => k_mem); (case zzhI => with_reducible assumption); (case zzhlen => (simp only [List.length_map]; omega)); (case zzhj => assumption)); ((intro _ _ _ _ _ _ _ _ _ _ _ _ _ _ _ _ _ _ _ _ _ _ _ hwm' _ _ _ _ _ _ _ _ _ _ _ _; (have hpos' := (wid_mem hwm' (by with_reducible assumption)).1); (have hlg' := wid_log hwm' (by with_reducible assumption)); (try k_sweep))); rotate_left; ((intro _ _ _ _ _ _ _ _ _ _ _ _ _ _; (try k_sweep))); rotate_right)
  k_with "own MapEnd" => (k_dflt (refine' ⟨_, _, _, ?zze, rfl, ?zzF, ?zzN⟩; (case zzF => k_asm); (case zzN => k_asm); (case zze => first | exact rfl | exact congrArg (fun z => Value.int z _) (abs_if _))))
  k_with "own CompEnd" => (k_dflt (refine' ce_bases ?zzF ?zzN ?zzoff ?zzhj ?zzhI ?zzhl ?zzhb ?zzh0 ?zzh1; (case zzN => k_asm); (case zzF => k_asm); (case zzoff => with_reducible assumption); (case zzh0 => with_reducible assumption); (case zzh1 => with_reducible assumption); (case zzhj => with_reducible assumption); (case zzhI => with_reducible assumption); (case zzhl => with_reducible assumption); (case zzhb => with_reducible assumption)))
  k_with "own CompEnd" => (k_dflt (refine' ce_drawn ?zzF ?zzN ?zzoff ?zzhm ?zzhj ?zzhI ?zzhl ?zzhb ?zzhw ?zzh0 ?zzh1; (case zzN => k_asm); (case zzF => k_asm); (case zzoff => with_reducible assumption); (case zzh0 => with_reducible assumption); (case zzh1 => with_reducible assumption); (case zzhj => with_reducible assumption); (case zzhI => with_reducible assumption); (case zzhl => with_reducible assumption); (case zzhb => with_reducible assumption); (case zzhw => with_reducible assumption); (case zzhm => k_mem)))
  k_with "own execs cons" => ((with_reducible show wpAny _ _ (execs (Stmt.Assign [Expr.Tuple _ _ _] _ _ :: _) _) _ _ _); refine Blk.rest ?_)
  refine' ⟨_, fun partRest => Mine.hd ?x⟩
  case x => w_strict (k_go0; (all_goals try k_fold); (iterate 95 (all_goals (try walk1))); (rename Fr _ _ _ _ => kFr); (rename News _ _ _ _ => kNews); (revert kFr kNews); (repeat ((rename Fr _ _ _ _ => junk); clear junk)); (repeat ((rename News _ _ _ _ => junk); clear junk)); (repeat (first | (rename_i kX; revert kX) | revert N' | revert hlg' | revert hpos' | revert hwm')); exact partRest.out)
end Mine
end
theorem Mine.calm_S2 : True ∧ True := by
  w_top off
  k_with_none
  (try walk1)
  all_goals trivial
section
open PySem PySem.W PySem.Calls PySem.Spec PyProof.Rows
namespace Mine
def s2 : { P : Prop // Hld P → s1.1 } := by
  k_with_none
  k_with "own eval Call" => (k_dflt (refine Call_ ?_))
  k_with "own binaryOp Mult int int" => (k_dflt (refine mul_int ?_ (Sm.mul ?zzx ?zzy)); (case zzx => with_reducible assumption); (case zzy => with_reducible assumption))
  k_with "own call ref" => ((with_reducible show wpAny _ _ (call (Value.ref 200) [_, Value.str (Str.ofString "rem") _, Value.int _ _, Value.int _ _]) _ _ _); k_dflt (refine' wpAny_wk ?zzw1 ?zzw2 ?zzw3 ?zzw4 ?zzw5 (apply_rem _ _ _ _ _ _ _ _ _ _ _ _ _ _ _ _ _ _ _ _ _ ?zzB ?zzF ?zzX ?zzT ?zzhk ?zzN ?zzhx ?zzhy ?zzhy0 ?_); (case zzB => k_asm); (case zzF => k_asm); (case zzN => k_asm); (case zzw3 => exact rfl); (case zzX => k_asm); (case zzT => k_asm); (case zzhk => first | exact rfl | assumption); (case zzw1 => exact rfl); (case zzw2 => exact Nat.le_of_ble_eq_true rfl); (case zzw4 => exact rfl); (case zzw5 => exact Nat.le_of_ble_eq_true rfl); (case zzhx => first | with_reducible assumption | exact Sm.abs (by with_reducible assumption)); (case zzhy => first | with_reducible assumption | exact Sm.abs (by with_reducible assumption)); (case zzhy0 => with_reducible assumption)); intro _ _ _ _ _; (try dsimp only); (try k_sweep))
  k_with "own call ref" => ((with_reducible show wpAny _ _ (call (Value.ref 200) [_, Value.str (Str.ofString "//") _, Value.int _ _, Value.int _ _]) _ _ _); k_dflt (refine' wpAny_wk ?zzw1 ?zzw2 ?zzw3 ?zzw4 ?zzw5 (apply_quo _ _ _ _ _ _ _ _ _ _ _ _ _ _ _ _ _ _ _ _ _ ?zzB ?zzF ?zzX ?zzT ?zzhk ?zzN ?zzhx ?zzhy ?zzhy0 ?_); (case zzB => k_asm); (case zzF => k_asm); (case zzN => k_asm); (case zzw3 => exact rfl); (case zzX => k_asm); (case zzT => k_asm); (case zzhk => first | exact rfl | assumption); (case zzw1 => exact rfl); (case zzw2 => exact Nat.le_of_ble_eq_true rfl); (case zzw4 => exact rfl); (case zzw5 => exact Nat.le_of_ble_eq_true rfl); (case zzhx => first | with_reducible assumption | exact Sm.abs (by with_reducible assumption)); (case zzhy => first | with_reducible assumption | exact Sm.abs (by with_reducible assumption)); (case zzhy0 => with_reducible assumption)); intro _ _ _ _ _; (try dsimp only); (try k_sweep))
  k_with "own call ref" => ((with_reducible show wpAny _ _ (call (Value.ref 200) [_, Value.str (Str.ofString "mod") _, Value.int _ _, Value.int _ _]) _ _ _); k_dflt (refine' wpAny_wk ?zzw1 ?zzw2 ?zzw3 ?zzw4 ?zzw5 (apply_mod _ _ _ _ _ _ _ _ _ _ _ _ _ _ _ _ _ _ _ _ _ ?zzB ?zzF ?zzX ?zzT ?zzhk ?zzN ?zzhx ?zzhy ?zzhy0 ?_); (case zzB => k_asm); (case zzF => k_asm); (case zzN => k_asm); (case zzw3 => exact rfl); (case zzX => k_asm); (case zzT => k_asm); (case zzhk => first | exact rfl | assumption); (case zzw1 => exact rfl); (case zzw2 => exact Nat.le_of_ble_eq_true rfl); (case zzw4 => exact rfl); (case zzw5 => exact Nat.le_of_ble_eq_true rfl); (case zzhx => first | with_reducible assumption | exact Sm.abs (by with_reducible assumption)); (case zzhy => first | with_reducible assumption | exact Sm.abs (by with_reducible assumption)); (case zzhy0 => with_reducible assumption)); intro _ _ _ _ _; (try dsimp only); (try k_sweep))
  k_with "own call ref" => ((with_reducible show wpAny _ _ (call (Value.ref 200) [_, Value.str (Str.ofString "div") _, Value.int _ _, Value.int _ _]) _ _ _); k_dflt (refine' wpAny_wk ?zzw1 ?zzw2 ?zzw3 ?zzw4 ?zzw5 (apply_div _ _ _ _ _ _ _ _ _ _ _ _ _ _ _ _ _ _ _ _ _ ?zzB ?zzF ?zzX ?zzT ?zzhk ?zzN ?zzhx ?zzhy ?zzhy0 ?_); (case zzB => k_asm); (case zzF => k_asm); (case zzN => k_asm); (case zzw3 => exact rfl); (case zzX => k_asm); (case zzT => k_asm); (case zzhk => first | exact rfl | assumption); (case zzw1 => exact rfl); (case zzw2 => exact Nat.le_of_ble_eq_true rfl); (case zzw4 => exact rfl); (case zzw5 => exact Nat.le_of_ble_eq_true rfl); (case zzhx => first | with_reducible assumption | exact Sm.abs (by with_reducible assumption)); (case zzhy => first | with_reducible assumption | exact Sm.abs (by with_reducible assumption)); (case zzhy0 => with_reducible assumption)); intro _ _ _ _ _; (try dsimp only); (try k_sweep))
  k_with "own call ref" => ((with_reducible show wpAny _ _ (call (Value.ref 228) [_, Value.int _ _, Value.ref _, Value.str (Str.ofString "rem") _, Value.str _ _]) _ _ _); k_dflt (refine' wpAny_wk ?zzw1 ?zzw2 ?zzw3 ?zzw4 ?zzw5 (taken_T _ _ _ _ _ _ _ _ _ _ _ _ _ _ _ _ _ _ _ _ _ _ _ _ ?zzB ?zzF ?zzX ?zzT ?zzhk ?zzN ?zzhbl ?zzhI ?zzhlen ?zzhx ?zzhb ?_); (case zzB => k_asm); (case zzF => k_asm); (case zzN => k_asm); (case zzw3 => exact rfl); (case zzX => k_asm); (case zzT => k_asm); (case zzhk => first | exact rfl | assumption); (case zzw1 => exact rfl); (case zzw2 => exact Nat.le_of_ble_eq_true rfl); (case zzw4 => exact rfl); (case zzw5 => exact Nat.le_of_ble_eq_true rfl); (case zzhbl => k_mem); (case zzhI => with_reducible assumption); (case zzhlen => with_reducible assumption); (case zzhx => with_reducible assumption); (case zzhb => with_reducible assumption)); intro _ _ dvs' nd' _ _ _ _ _ l1 l2 _ _; (have l3 := lt_up (o := listOf dvs'.toArray nd') l1 l2); (try k_lt l1); (try k_lt l3); (try dsimp only); (try k_sweep))
  k_with "own call ref" => ((with_reducible show wpAny _ _ (call (Value.ref 228) [_, Value.int _ _, Value.ref _, Value.str (Str.ofString "mod") _, Value.str _ _]) _ _ _); k_dflt (refine' wpAny_wk ?zzw1 ?zzw2 ?zzw3 ?zzw4 ?zzw5 (taken_F _ _ _ _ _ _ _ _ _ _ _ _ _ _ _ _ _ _ _ _ _ _ _ _ ?zzB ?zzF ?zzX ?zzT ?zzhk ?zzN ?zzhbl ?zzhI ?zzhlen ?zzhx ?zzhb ?_); (case zzB => k_asm); (case zzF => k_asm); (case zzN => k_asm); (case zzw3 => exact rfl); (case zzX => k_asm); (case zzT => k_asm); (case zzhk => first | exact rfl | assumption); (case zzw1 => exact rfl); (case zzw2 => exact Nat.le_of_ble_eq_true rfl); (case zzw4 => exact rfl); (case zzw5 => exact Nat.le_of_ble_eq_true rfl); (case zzhbl => k_mem); (case zzhI => with_reducible assumption); (case zzhlen => with_reducible assumption); (case zzhx => with_reducible assumption); (case zzhb => with_reducible assumption)); intro _ _ dvs' nd' _ _ _ _ _ l1 l2 _ _; (have l3 := lt_up (o := listOf dvs'.toArray nd') l1 l2); (try k_lt l1); (try k_lt l3); (try dsimp only); (try k_sweep))
  k_with "own call ref" => ((with_reducible show wpAny _ _ (call (Value.ref 235) [Value.ref _, Value.ref _, Value.int _ _]) _ _ _); k_dflt (refine' wpAny_wk ?zzw1 ?zzw2 ?zzw3 ?zzw4 ?zzw5 (built_spec _ _ _ _ _ _ _ _ _ _ _ _ _ _ _ _ _ _ _ _ _ _ _ _ _ ?zzB ?zzF ?zzX ?zzT ?zzhk ?zzN ?zzhbl ?zzhdl ?zzhI ?zzhJ ?zzhlen ?zzhdlen ?zzhb ?_); (case zzB => k_asm); (case zzF => k_asm); (case zzN => k_asm); (case zzw3 => exact rfl); (case zzX => k_asm); (case zzT => k_asm); (case zzhk => first | exact rfl | assumption); (case zzw1 => exact rfl); (case zzw2 => exact Nat.le_of_ble_eq_true rfl); (case zzw4 => exact rfl); (case zzw5 => exact Nat.le_of_ble_eq_true rfl); (case zzhbl => k_mem); (case zzhdl => k_mem); (case zzhI => with_reducible assumption); (case zzhJ => with_reducible assumption); (case zzhlen => with_reducible assumption); (case zzhdlen => with_reducible first | exact digs_length _ _ _ _ | assumption); (case zzhb => with_reducible assumption)); intro _ _ _ _ _; (try dsimp only); (try k_sweep))
  k_with "own call builtin:len" => ((with_reducible show wpAny _ _ (call (Value.builtin "len") [Value.ref _]) _ _ _); k_dflt (refine' len_led (m := fun _ => none) ?zzN ?zzhm ?zzhi ?zzhl ?_; (case zzN => k_asm); (case zzhm => k_mem); (case zzhi => with_reducible assumption); (case zzhl => with_reducible assumption)); (try dsimp only))
  k_with "own subscriptTail" => ((with_reducible show wpAny _ _ (subscriptTail _ _ (Value.ref _) (Value.int _ _)) _ _ _); k_dflt (refine' item_led ?zzN ?zzhm ?zzhi ?zzh0 ?zzh1 ?zzh2 ?_; (case zzN => k_asm); (case zzhm => k_mem); (case zzhi => with_reducible assumption); (case zzh0 => with_reducible assumption); (case zzh1 => first | with_reducible assumption | ((try simp only [digs_length, LawIn.wl, List.length_map]); with_reducible assumption)); (case zzh2 => with_reducible assumption)); intro _)
  k_with "own compareOp NotEq ref ref" => ((with_reducible show wpAny _ _ (compareOp CmpOp.NotEq (Value.ref _) (Value.ref _)) _ _ _); k_dflt (refine' pair_ne ?zzN ?zzma ?zzca ?zzda ?zzmd ?zzhI ?zzmb ?zzcb ?zzdb ?zzme ?zzhJ ?zzhu ?zzhds ?zzhrq ?_; (case zzN => k_asm); (case zzma => k_mem); (case zzca => exact rfl); (case zzda => exact rfl); (case zzmd => k_mem); (case zzhI => with_reducible assumption); (case zzmb => k_mem); (case zzcb => exact rfl); (case zzdb => exact rfl); (case zzme => k_mem); (case zzhJ => with_reducible assumption); (case zzhu => ke_room); (case zzhds => with_reducible assumption); (case zzhrq => with_reducible assumption)))
  k_with "own MapEnd" => (k_dflt (refine' ⟨_, _, _, ?zze, rfl, ?zzF, ?zzN⟩; (case zzF => k_asm); (case zzN => k_asm); (case zze => first | exact rfl | exact congrArg (fun z => Value.int z _) (abs_if _))))
  k_with "own CompSrc" => ((with_reducible show LCg.CompSrc _ _ _ _ _ _ _ (Expr.UnaryOp _ _ _) _ _ _ _ _ _); k_dflt (refine' map_src (fun b => -b) ?zzhh ?zzF ?zzN ?zzhm ?zzhI ?zzhlen ?_ ?_; (case zzF => k_asm); (case zzN => k_asm); (case zzhh => exact rfl); (case zzhm => k_mem); (case zzhI => with_reducible assumption); (case zzhlen => with_reducible assumption)); ((intro _ _ _ _ _ _ _ _ _ _ _ _ _ _ _ _ _ _; (try k_sweep))); rotate_left; ((intro _ _ _; (try k_sweep))); rotate_right)
  k_with "own pyIter ref" => ((with_reducible show wpAny _ _ (pyIter (Value.ref _)) (fun it s₂ => LoopAtV _ _ _ _ _ _ _ _ _ it s₂) _ _); k_dflt (refine' wg_range ?zzhh ?zzhr ?zzF ?zzN ?zzhnum ?zzhlen ?_ ?_; (case zzF => k_asm); (case zzN => k_asm); (case zzhh => exact rfl); (case zzhr => with_reducible assumption); (case zzhnum => exact rfl); (case zzhlen => with_reducible assumption)); ((intro _ _ _ _ _ _ hk0' hk1' _ _ _; (have hq' := LawIn.turn1 (by with_reducible assumption) hk0' hk1'); (obtain ⟨hq1', hq2', hq3', hq4', hq5', hq6'⟩ := hq'); (try k_sweep))); rotate_left; (intro _ _ _ _ _ _; (try k_sweep)); rotate_right)
  k_with "own pyIter ref" => ((with_reducible show wpAny _ _ (pyIter (Value.ref _)) (fun it s₂ => LoopAtV _ _ _ _ _ _ _ _ _ it s₂) _ _); (fail_if_success (with_reducible show wpAny _ _ (pyIter (Value.ref _)) (fun it s₂ => LoopAtV _ _ _ _ _ _ (Stmt.If _ _ _ _ :: _) _ _ it s₂) _ _)); k_dflt (refine' tw_range ?zzhh ?zzhr ?zzF ?zzN ?zzhlen ?_ ?_; (case zzF => k_asm); (case zzN => k_asm); (case zzhh => exact rfl); (case zzhr => with_reducible assumption); (case zzhlen => with_reducible assumption)); ((intro _ _ _ _ _ _ hk0' hk1' _ _ _; (have hq' := LawIn.turnM (by with_reducible assumption) hk0' hk1'); (try k_sweep))); rotate_left; (intro _ _ _ _ _; (try k_sweep)); rotate_right)
  k_with "own WgPost" => (k_dflt (refine' wg_end ?zzF ?zzN ?zzhm ?zzho; (case zzF => k_asm); (case zzN => k_asm); (case zzhm => exact rfl); (case zzho => (intro _ h1 h2; simp only [h1, h2, if_false]))))
  k_with "own TwPost" => (k_dflt (refine' tw_end ?zzF ?zzN ?zzho; (case zzF => k_asm); (case zzN => k_asm); (case zzho => (intro _ h1 h2; simp only [h1, h2, if_false]))))
  k_with "own exec Return some" => ((with_reducible show wpAny _ _ (exec (Stmt.Return (some (Expr.Constant (Const.bool false) _ _)) _) _) _ _ _); exfalso; first | (with_reducible contradiction) | ((rename Turn2 _ _ _ => qT); first | exact qT.p1 (by with_reducible assumption) (by with_reducible assumption) | exact qT.p2 (by with_reducible assumption) (by with_reducible assumption) | exact qT.n1 (by with_reducible assumption) (by with_reducible assumption) | exact qT.n2 (by with_reducible assumption) (by with_reducible assumption)))
  k_with "own execs cons" => ((with_reducible show wpAny _ _ (execs ((Stmt.Assign [Expr.Tuple _ _ _] (Expr.Call _ [_, _, Expr.Name (Str.ofString "bases") _, Expr.Constant (Const.str (Str.ofString "mod")) _ _, _] _ _) _) :: _) _) _ _ _); refine Blk.rest ?_)
  k_with "own execs cons" => ((with_reducible show wpAny _ _ (execs ((Stmt.Assign [Expr.Tuple _ _ _] (Expr.Call _ [_, _, Expr.Name (Str.ofString "widths") _, Expr.Constant (Const.str (Str.ofString "mod")) _ _, _] _ _) _) :: _) _) _ _ _); refine Blk.rest ?_)
  k_with "own execs cons" => ((with_reducible show wpAny _ _ (execs ((Stmt.Assign [Expr.Name (Str.ofString "made") _] (Expr.Call _ _ _ _) _) :: _) _) _ _ _); refine Blk.rest ?_)
  k_with "own execs cons" => ((with_reducible show wpAny _ _ (execs ((Stmt.Assign [Expr.Name (Str.ofString "formal") _] _ _) :: _) _) _ _ _); refine Blk.rest ?_)
  refine' ⟨_, fun partRest => ?x⟩
  case x =>
    intro k1; intros
    refine Blk.wake ?_
    rename Frag.In _ _ => kIn; revert kIn; k_fill; intro kIn
    rename Within1 _ _ => hWi
    rename List.length _ = List.length (List.map _ _) => hDl
    rename ∀ b ∈ _, b ≠ 0 ∧ Int.natAbs b ≤ 10 ^ 8 => hOk
    rename List.length _ = Int.toNat _ => hSix
    rename _ < (6 : Int) => hLt6
    rename Int.natAbs _ ≤ 5 * 10 ^ 39 => hNum
    have hLaw := LawIn.mk hNum hOk (six_of hSix hLt6) hDl hWi
    clear hWi hDl hOk hSix hLt6 hNum
    have hSx := hLaw.sx
    have hBsm := hLaw.bsm
    have hBmul := hLaw.bmul
    have hWsm := hLaw.wsm
    have hWmul := hLaw.wmul
    have hB64 := hLaw.b64
    have hW64 := hLaw.w64
    have hSwt := hLaw.swt
    have hWt0 := hLaw.wt0
    have hFacts := LawIn.facts1 hLaw
    obtain ⟨hFa1, hFa2, hFa3⟩ := hFacts
    iterate 140 (all_goals (try walk1))
    (rename Fr _ _ _ _ => kFr); (rename News _ _ _ _ => kNews); (have kNewsB := cb_drop kNews (fun q hq => .tail _ (.tail _ (hq)))); (clear kNews); (revert kFr kNewsB); (clear hSx hBsm hBmul hWsm hWmul hB64 hW64 hSwt hWt0 hFa1 hFa2 hFa3); (repeat ((with_reducible rename Fr _ _ _ _ => junk); clear junk)); (repeat ((with_reducible rename News _ _ _ _ => junk); clear junk)); (repeat ((with_reducible rename IsRange _ _ _ _ _ _ _ _ => junk); clear junk)); (repeat ((with_reducible rename ∀ (b : Addr) (o : Obj), _ = _ → _ = _ => junk); clear junk)); (repeat ((with_reducible rename Sm _ => junk); clear junk)); (repeat ((with_reducible rename IntMulOk _ _ => junk); clear junk)); (revert hLaw kIn); (try revert hSm2); (try revert hSm3); (try revert hSr); (try revert hSxm); (try revert hSok); (try revert hSx); (try revert restF); (repeat (first | (rename_i kX; revert kX) | revert dvs' | revert h1 | revert h2 | revert hk0' | revert hk1' | revert hq' | revert hq1' | revert hq2' | revert hq3' | revert hq4' | revert hq5' | revert hq6' | revert l1 | revert l2 | revert l3 | revert nd' | revert qT)); (try revert tk); (revert k1); exact partRest.out
end Mine
end
theorem Mine.calm_S3 : True ∧ True := by
  w_top off
  k_with_none
  (try walk1)
  all_goals trivial
section
open PySem PySem.W PySem.Calls PySem.Spec PyProof.Rows
namespace Mine
def s3 : { P : Prop // Hld P → s2.1 } := by
  k_with_none
  k_with "own eval Call" => (k_dflt (refine Call_ ?_))
  k_with "own binaryOp Mult int int" => (k_dflt (refine mul_int ?_ (Sm.mul ?zzx ?zzy)); (case zzx => with_reducible assumption); (case zzy => with_reducible assumption))
  k_with "own call ref" => ((with_reducible show wpAny _ _ (call (Value.ref 200) [_, Value.str (Str.ofString "rem") _, Value.int _ _, Value.int _ _]) _ _ _); k_dflt (refine' wpAny_wk ?zzw1 ?zzw2 ?zzw3 ?zzw4 ?zzw5 (apply_rem _ _ _ _ _ _ _ _ _ _ _ _ _ _ _ _ _ _ _ _ _ ?zzB ?zzF ?zzX ?zzT ?zzhk ?zzN ?zzhx ?zzhy ?zzhy0 ?_); (case zzB => k_asm); (case zzF => k_asm); (case zzN => k_asm); (case zzw3 => exact rfl); (case zzX => k_asm); (case zzT => k_asm); (case zzhk => first | exact rfl | assumption); (case zzw1 => exact rfl); (case zzw2 => exact Nat.le_of_ble_eq_true rfl); (case zzw4 => exact rfl); (case zzw5 => exact Nat.le_of_ble_eq_true rfl); (case zzhx => first | with_reducible assumption | exact Sm.abs (by with_reducible assumption)); (case zzhy => first | with_reducible assumption | exact Sm.abs (by with_reducible assumption)); (case zzhy0 => with_reducible assumption)); intro _ _ _ _ _; (try dsimp only); (try k_sweep))
  k_with "own call ref" => ((with_reducible show wpAny _ _ (call (Value.ref 200) [_, Value.str (Str.ofString "//") _, Value.int _ _, Value.int _ _]) _ _ _); k_dflt (refine' wpAny_wk ?zzw1 ?zzw2 ?zzw3 ?zzw4 ?zzw5 (apply_quo _ _ _ _ _ _ _ _ _ _ _ _ _ _ _ _ _ _ _ _ _ ?zzB ?zzF ?zzX ?zzT ?zzhk ?zzN ?zzhx ?zzhy ?zzhy0 ?_); (case zzB => k_asm); (case zzF => k_asm); (case zzN => k_asm); (case zzw3 => exact rfl); (case zzX => k_asm); (case zzT => k_asm); (case zzhk => first | exact rfl | assumption); (case zzw1 => exact rfl); (case zzw2 => exact Nat.le_of_ble_eq_true rfl); (case zzw4 => exact rfl); (case zzw5 => exact Nat.le_of_ble_eq_true rfl); (case zzhx => first | with_reducible assumption | exact Sm.abs (by with_reducible assumption)); (case zzhy => first | with_reducible assumption | exact Sm.abs (by with_reducible assumption)); (case zzhy0 => with_reducible assumption)); intro _ _ _ _ _; (try dsimp only); (try k_sweep))
  k_with "own call ref" => ((with_reducible show wpAny _ _ (call (Value.ref 200) [_, Value.str (Str.ofString "mod") _, Value.int _ _, Value.int _ _]) _ _ _); k_dflt (refine' wpAny_wk ?zzw1 ?zzw2 ?zzw3 ?zzw4 ?zzw5 (apply_mod _ _ _ _ _ _ _ _ _ _ _ _ _ _ _ _ _ _ _ _ _ ?zzB ?zzF ?zzX ?zzT ?zzhk ?zzN ?zzhx ?zzhy ?zzhy0 ?_); (case zzB => k_asm); (case zzF => k_asm); (case zzN => k_asm); (case zzw3 => exact rfl); (case zzX => k_asm); (case zzT => k_asm); (case zzhk => first | exact rfl | assumption); (case zzw1 => exact rfl); (case zzw2 => exact Nat.le_of_ble_eq_true rfl); (case zzw4 => exact rfl); (case zzw5 => exact Nat.le_of_ble_eq_true rfl); (case zzhx => first | with_reducible assumption | exact Sm.abs (by with_reducible assumption)); (case zzhy => first | with_reducible assumption | exact Sm.abs (by with_reducible assumption)); (case zzhy0 => with_reducible assumption)); intro _ _ _ _ _; (try dsimp only); (try k_sweep))
  k_with "own call ref" => ((with_reducible show wpAny _ _ (call (Value.ref 200) [_, Value.str (Str.ofString "div") _, Value.int _ _, Value.int _ _]) _ _ _); k_dflt (refine' wpAny_wk ?zzw1 ?zzw2 ?zzw3 ?zzw4 ?zzw5 (apply_div _ _ _ _ _ _ _ _ _ _ _ _ _ _ _ _ _ _ _ _ _ ?zzB ?zzF ?zzX ?zzT ?zzhk ?zzN ?zzhx ?zzhy ?zzhy0 ?_); (case zzB => k_asm); (case zzF => k_asm); (case zzN => k_asm); (case zzw3 => exact rfl); (case zzX => k_asm); (case zzT => k_asm); (case zzhk => first | exact rfl | assumption); (case zzw1 => exact rfl); (case zzw2 => exact Nat.le_of_ble_eq_true rfl); (case zzw4 => exact rfl); (case zzw5 => exact Nat.le_of_ble_eq_true rfl); (case zzhx => first | with_reducible assumption | exact Sm.abs (by with_reducible assumption)); (case zzhy => first | with_reducible assumption | exact Sm.abs (by with_reducible assumption)); (case zzhy0 => with_reducible assumption)); intro _ _ _ _ _; (try dsimp only); (try k_sweep))
  k_with "own call ref" => ((with_reducible show wpAny _ _ (call (Value.ref 228) [_, Value.int _ _, Value.ref _, Value.str (Str.ofString "rem") _, Value.str _ _]) _ _ _); k_dflt (refine' wpAny_wk ?zzw1 ?zzw2 ?zzw3 ?zzw4 ?zzw5 (taken_T _ _ _ _ _ _ _ _ _ _ _ _ _ _ _ _ _ _ _ _ _ _ _ _ ?zzB ?zzF ?zzX ?zzT ?zzhk ?zzN ?zzhbl ?zzhI ?zzhlen ?zzhx ?zzhb ?_); (case zzB => k_asm); (case zzF => k_asm); (case zzN => k_asm); (case zzw3 => exact rfl); (case zzX => k_asm); (case zzT => k_asm); (case zzhk => first | exact rfl | assumption); (case zzw1 => exact rfl); (case zzw2 => exact Nat.le_of_ble_eq_true rfl); (case zzw4 => exact rfl); (case zzw5 => exact Nat.le_of_ble_eq_true rfl); (case zzhbl => k_mem); (case zzhI => with_reducible assumption); (case zzhlen => with_reducible assumption); (case zzhx => with_reducible assumption); (case zzhb => with_reducible assumption)); intro _ _ dvs' nd' _ _ _ _ _ l1 l2 _ _; (have l3 := lt_up (o := listOf dvs'.toArray nd') l1 l2); (try k_lt l1); (try k_lt l3); (try dsimp only); (try k_sweep))
  k_with "own call ref" => ((with_reducible show wpAny _ _ (call (Value.ref 228) [_, Value.int _ _, Value.ref _, Value.str (Str.ofString "mod") _, Value.str _ _]) _ _ _); k_dflt (refine' wpAny_wk ?zzw1 ?zzw2 ?zzw3 ?zzw4 ?zzw5 (taken_F _ _ _ _ _ _ _ _ _ _ _ _ _ _ _ _ _ _ _ _ _ _ _ _ ?zzB ?zzF ?zzX ?zzT ?zzhk ?zzN ?zzhbl ?zzhI ?zzhlen ?zzhx ?zzhb ?_); (case zzB => k_asm); (case zzF => k_asm); (case zzN => k_asm); (case zzw3 => exact rfl); (case zzX => k_asm); (case zzT => k_asm); (case zzhk => first | exact rfl | assumption); (case zzw1 => exact rfl); (case zzw2 => exact Nat.le_of_ble_eq_true rfl); (case zzw4 => exact rfl); (case zzw5 => exact Nat.le_of_ble_eq_true rfl); (case zzhbl => k_mem); (case zzhI => with_reducible assumption); (case zzhlen => with_reducible assumption); (case zzhx => with_reducible assumption); (case zzhb => with_reducible assumption)); intro _ _ dvs' nd' _ _ _ _ _ l1 l2 _ _; (have l3 := lt_up (o := listOf dvs'.toArray nd') l1 l2); (try k_lt l1); (try k_lt l3); (try dsimp only); (try k_sweep))
  k_with "own call ref" => ((with_reducible show wpAny _ _ (call (Value.ref 235) [Value.ref _, Value.ref _, Value.int _ _]) _ _ _); k_dflt (refine' wpAny_wk ?zzw1 ?zzw2 ?zzw3 ?zzw4 ?zzw5 (built_spec _ _ _ _ _ _ _ _ _ _ _ _ _ _ _ _ _ _ _ _ _ _ _ _ _ ?zzB ?zzF ?zzX ?zzT ?zzhk ?zzN ?zzhbl ?zzhdl ?zzhI ?zzhJ ?zzhlen ?zzhdlen ?zzhb ?_); (case zzB => k_asm); (case zzF => k_asm); (case zzN => k_asm); (case zzw3 => exact rfl); (case zzX => k_asm); (case zzT => k_asm); (case zzhk => first | exact rfl | assumption); (case zzw1 => exact rfl); (case zzw2 => exact Nat.le_of_ble_eq_true rfl); (case zzw4 => exact rfl); (case zzw5 => exact Nat.le_of_ble_eq_true rfl); (case zzhbl => k_mem); (case zzhdl => k_mem); (case zzhI => with_reducible assumption); (case zzhJ => with_reducible assumption); (case zzhlen => with_reducible assumption); (case zzhdlen => with_reducible first | exact digs_length _ _ _ _ | assumption); (case zzhb => with_reducible assumption)); intro _ _ _ _ _; (try dsimp only); (try k_sweep))
  k_with "own call builtin:len" => ((with_reducible show wpAny _ _ (call (Value.builtin "len") [Value.ref _]) _ _ _); k_dflt (refine' len_led (m := fun _ => none) ?zzN ?zzhm ?zzhi ?zzhl ?_; (case zzN => k_asm); (case zzhm => k_mem); (case zzhi => with_reducible assumption); (case zzhl => with_reducible assumption)); (try dsimp only))
  k_with "own subscriptTail" => ((with_reducible show wpAny _ _ (subscriptTail _ _ (Value.ref _) (Value.int _ _)) _ _ _); k_dflt (refine' item_led ?zzN ?zzhm ?zzhi ?zzh0 ?zzh1 ?zzh2 ?_; (case zzN => k_asm); (case zzhm => k_mem); (case zzhi => with_reducible assumption); (case zzh0 => with_reducible assumption); (case zzh1 => first | with_reducible assumption | ((try simp only [digs_length, LawIn.wl, List.length_map]); with_reducible assumption)); (case zzh2 => with_reducible assumption)); intro _)
  k_with "own compareOp NotEq ref ref" => ((with_reducible show wpAny _ _ (compareOp CmpOp.NotEq (Value.ref _) (Value.ref _)) _ _ _); k_dflt (refine' pair_ne ?zzN ?zzma ?zzca ?zzda ?zzmd ?zzhI ?zzmb ?zzcb ?zzdb ?zzme ?zzhJ ?zzhu ?zzhds ?zzhrq ?_; (case zzN => k_asm); (case zzma => k_mem); (case zzca => exact rfl); (case zzda => exact rfl); (case zzmd => k_mem); (case zzhI => with_reducible assumption); (case zzmb => k_mem); (case zzcb => exact rfl); (case zzdb => exact rfl); (case zzme => k_mem); (case zzhJ => with_reducible assumption); (case zzhu => ke_room); (case zzhds => with_reducible assumption); (case zzhrq => with_reducible assumption)))
  k_with "own MapEnd" => (k_dflt (refine' ⟨_, _, _, ?zze, rfl, ?zzF, ?zzN⟩; (case zzF => k_asm); (case zzN => k_asm); (case zze => first | exact rfl | exact congrArg (fun z => Value.int z _) (abs_if _))))
  k_with "own CompSrc" => ((with_reducible show LCg.CompSrc _ _ _ _ _ _ _ (Expr.UnaryOp _ _ _) _ _ _ _ _ _); k_dflt (refine' map_src (fun b => -b) ?zzhh ?zzF ?zzN ?zzhm ?zzhI ?zzhlen ?_ ?_; (case zzF => k_asm); (case zzN => k_asm); (case zzhh => exact rfl); (case zzhm => k_mem); (case zzhI => with_reducible assumption); (case zzhlen => with_reducible assumption)); ((intro _ _ _ _ _ _ _ _ _ _ _ _ _ _ _ _ _ _; (try k_sweep))); rotate_left; ((intro _ _ _; (try k_sweep))); rotate_right)
  k_with "own pyIter ref" => ((with_reducible show wpAny _ _ (pyIter (Value.ref _)) (fun it s₂ => LoopAtV _ _ _ _ _ _ _ _ _ it s₂) _ _); k_dflt (refine' wg_range ?zzhh ?zzhr ?zzF ?zzN ?zzhnum ?zzhlen ?_ ?_; (case zzF => k_asm); (case zzN => k_asm); (case zzhh => exact rfl); (case zzhr => with_reducible assumption); (case zzhnum => exact rfl); (case zzhlen => with_reducible assumption)); ((intro _ _ _ _ _ _ hk0' hk1' _ _ _; (have hq' := LawIn.turn1 (by with_reducible assumption) hk0' hk1'); (obtain ⟨hq1', hq2', hq3', hq4', hq5', hq6'⟩ := hq'); (try k_sweep))); rotate_left; (intro _ _ _ _ _ _; (try k_sweep)); rotate_right)
  k_with "own pyIter ref" => ((with_reducible show wpAny _ _ (pyIter (Value.ref _)) (fun it s₂ => LoopAtV _ _ _ _ _ _ _ _ _ it s₂) _ _); (fail_if_success (with_reducible show wpAny _ _ (pyIter (Value.ref _)) (fun it s₂ => LoopAtV _ _ _ _ _ _ (Stmt.If _ _ _ _ :: _) _ _ it s₂) _ _)); k_dflt (refine' tw_range ?zzhh ?zzhr ?zzF ?zzN ?zzhlen ?_ ?_; (case zzF => k_asm); (case zzN => k_asm); (case zzhh => exact rfl); (case zzhr => with_reducible assumption); (case zzhlen => with_reducible assumption)); ((intro _ _ _ _ _ _ hk0' hk1' _ _ _; (have hq' := LawIn.turnM (by with_reducible assumption) hk0' hk1'); (try k_sweep))); rotate_left; (intro _ _ _ _ _; (try k_sweep)); rotate_right)
  k_with "own WgPost" => (k_dflt (refine' wg_end ?zzF ?zzN ?zzhm ?zzho; (case zzF => k_asm); (case zzN => k_asm); (case zzhm => exact rfl); (case zzho => (intro _ h1 h2; simp only [h1, h2, if_false]))))
  k_with "own TwPost" => (k_dflt (refine' tw_end ?zzF ?zzN ?zzho; (case zzF => k_asm); (case zzN => k_asm); (case zzho => (intro _ h1 h2; simp only [h1, h2, if_false]))))
  k_with "own exec Return some" => ((with_reducible show wpAny _ _ (exec (Stmt.Return (some (Expr.Constant (Const.bool false) _ _)) _) _) _ _ _); exfalso; first | (with_reducible contradiction) | ((rename Turn2 _ _ _ => qT); first | exact qT.p1 (by with_reducible assumption) (by with_reducible assumption) | exact qT.p2 (by with_reducible assumption) (by with_reducible assumption) | exact qT.n1 (by with_reducible assumption) (by with_reducible assumption) | exact qT.n2 (by with_reducible assumption) (by with_reducible assumption)))
  k_with "own execs cons" => ((with_reducible show wpAny _ _ (execs ((Stmt.Assign [Expr.Tuple _ _ _] (Expr.Call _ [_, _, Expr.Name (Str.ofString "bases") _, Expr.Constant (Const.str (Str.ofString "mod")) _ _, _] _ _) _) :: _) _) _ _ _); refine Blk.rest ?_)
  k_with "own execs cons" => ((with_reducible show wpAny _ _ (execs ((Stmt.Assign [Expr.Tuple _ _ _] (Expr.Call _ [_, _, Expr.Name (Str.ofString "widths") _, Expr.Constant (Const.str (Str.ofString "mod")) _ _, _] _ _) _) :: _) _) _ _ _); refine Blk.rest ?_)
  k_with "own execs cons" => ((with_reducible show wpAny _ _ (execs ((Stmt.Assign [Expr.Name (Str.ofString "made") _] (Expr.Call _ _ _ _) _) :: _) _) _ _ _); refine Blk.rest ?_)
  k_with "own execs cons" => ((with_reducible show wpAny _ _ (execs ((Stmt.Assign [Expr.Name (Str.ofString "formal") _] _ _) :: _) _) _ _ _); refine Blk.rest ?_)
  refine' ⟨_, fun partRest => ?x⟩
  case x =>
    intro k1; intros
    refine Blk.wake ?_
    rename Frag.In _ _ => kIn; revert kIn; k_fill; intro kIn
    rename LawIn _ _ _ => hLaw
    have hSx := hLaw.sx
    have hBsm := hLaw.bsm
    have hBmul := hLaw.bmul
    have hWsm := hLaw.wsm
    have hWmul := hLaw.wmul
    have hB64 := hLaw.b64
    have hW64 := hLaw.w64
    have hSwt := hLaw.swt
    have hWt0 := hLaw.wt0
    have hFacts := LawIn.facts2 hLaw
    obtain ⟨hFa1, hFa2⟩ := hFacts
    with_reducible refine wpAny_execs_cons ?_
    (try dsimp only)
    iterate 140 (all_goals (try walk1))
    (rename Fr _ _ _ _ => kFr); (rename News _ _ _ _ => kNews); (have kNewsB := cb_drop kNews (fun q hq => .tail _ (.tail _ (hq)))); (clear kNews); (revert kFr kNewsB); (clear hSx hBsm hBmul hWsm hWmul hB64 hW64 hSwt hWt0 hFa1 hFa2); (repeat ((with_reducible rename Fr _ _ _ _ => junk); clear junk)); (repeat ((with_reducible rename News _ _ _ _ => junk); clear junk)); (repeat ((with_reducible rename IsRange _ _ _ _ _ _ _ _ => junk); clear junk)); (repeat ((with_reducible rename ∀ (b : Addr) (o : Obj), _ = _ → _ = _ => junk); clear junk)); (repeat ((with_reducible rename Sm _ => junk); clear junk)); (repeat ((with_reducible rename IntMulOk _ _ => junk); clear junk)); (revert hLaw kIn); (try revert hSm2); (try revert hSm3); (try revert hSr); (try revert hSxm); (try revert hSok); (try revert hSx); (try revert restF); (repeat (first | (rename_i kX; revert kX) | revert dvs' | revert h1 | revert h2 | revert hk0' | revert hk1' | revert hq' | revert hq1' | revert hq2' | revert hq3' | revert hq4' | revert hq5' | revert hq6' | revert l1 | revert l2 | revert l3 | revert nd' | revert qT)); (try revert tk); (revert k1); exact partRest.out
end Mine
end
theorem Mine.calm_S4 : True ∧ True := by
  w_top off
  k_with_none
  (try walk1)
  all_goals trivial
section
open PySem PySem.W PySem.Calls PySem.Spec PyProof.Rows
namespace Mine
def s4 : { P : Prop // Hld P → s3.1 } := by
  k_with_none
  k_with "own eval Call" => (k_dflt (refine Call_ ?_))
  k_with "own binaryOp Mult int int" => (k_dflt (refine mul_int ?_ (Sm.mul ?zzx ?zzy)); (case zzx => with_reducible assumption); (case zzy => with_reducible assumption))
  k_with "own call ref" => ((with_reducible show wpAny _ _ (call (Value.ref 200) [_, Value.str (Str.ofString "rem") _, Value.int _ _, Value.int _ _]) _ _ _); k_dflt (refine' wpAny_wk ?zzw1 ?zzw2 ?zzw3 ?zzw4 ?zzw5 (apply_rem _ _ _ _ _ _ _ _ _ _ _ _ _ _ _ _ _ _ _ _ _ ?zzB ?zzF ?zzX ?zzT ?zzhk ?zzN ?zzhx ?zzhy ?zzhy0 ?_); (case zzB => k_asm); (case zzF => k_asm); (case zzN => k_asm); (case zzw3 => exact rfl); (case zzX => k_asm); (case zzT => k_asm); (case zzhk => first | exact rfl | assumption); (case zzw1 => exact rfl); (case zzw2 => exact Nat.le_of_ble_eq_true rfl); (case zzw4 => exact rfl); (case zzw5 => exact Nat.le_of_ble_eq_true rfl); (case zzhx => first | with_reducible assumption | exact Sm.abs (by with_reducible assumption)); (case zzhy => first | with_reducible assumption | exact Sm.abs (by with_reducible assumption)); (case zzhy0 => with_reducible assumption)); intro _ _ _ _ _; (try dsimp only); (try k_sweep))
  k_with "own call ref" => ((with_reducible show wpAny _ _ (call (Value.ref 200) [_, Value.str (Str.ofString "//") _, Value.int _ _, Value.int _ _]) _ _ _); k_dflt (refine' wpAny_wk ?zzw1 ?zzw2 ?zzw3 ?zzw4 ?zzw5 (apply_quo _ _ _ _ _ _ _ _ _ _ _ _ _ _ _ _ _ _ _ _ _ ?zzB ?zzF ?zzX ?zzT ?zzhk ?zzN ?zzhx ?zzhy ?zzhy0 ?_); (case zzB => k_asm); (case zzF => k_asm); (case zzN => k_asm); (case zzw3 => exact rfl); (case zzX => k_asm); (case zzT => k_asm); (case zzhk => first | exact rfl | assumption); (case zzw1 => exact rfl); (case zzw2 => exact Nat.le_of_ble_eq_true rfl); (case zzw4 => exact rfl); (case zzw5 => exact Nat.le_of_ble_eq_true rfl); (case zzhx => first | with_reducible assumption | exact Sm.abs (by with_reducible assumption)); (case zzhy => first | with_reducible assumption | exact Sm.abs (by with_reducible assumption)); (case zzhy0 => with_reducible assumption)); intro _ _ _ _ _; (try dsimp only); (try k_sweep))
  k_with "own call ref" => ((with_reducible show wpAny _ _ (call (Value.ref 200) [_, Value.str (Str.ofString "mod") _, Value.int _ _, Value.int _ _]) _ _ _); k_dflt (refine' wpAny_wk ?zzw1 ?zzw2 ?zzw3 ?zzw4 ?zzw5 (apply_mod _ _ _ _ _ _ _ _ _ _ _ _ _ _ _ _ _ _ _ _ _ ?zzB ?zzF ?zzX ?zzT ?zzhk ?zzN ?zzhx ?zzhy ?zzhy0 ?_); (case zzB => k_asm); (case zzF => k_asm); (case zzN => k_asm); (case zzw3 => exact rfl); (case zzX => k_asm); (case zzT => k_asm); (case zzhk => first | exact rfl | assumption); (case zzw1 => exact rfl); (case zzw2 => exact Nat.le_of_ble_eq_true rfl); (case zzw4 => exact rfl); (case zzw5 => exact Nat.le_of_ble_eq_true rfl); (case zzhx => first | with_reducible assumption | exact Sm.abs (by with_reducible assumption)); (case zzhy => first | with_reducible assumption | exact Sm.abs (by with_reducible assumption)); (case zzhy0 => with_reducible assumption)); intro _ _ _ _ _; (try dsimp only); (try k_sweep))
  k_with "own call ref" => ((with_reducible show wpAny _ _ (call (Value.ref 200) [_, Value.str (Str.ofString "div") _, Value.int _ _, Value.int _ _]) _ _ _); k_dflt (refine' wpAny_wk ?zzw1 ?zzw2 ?zzw3 ?zzw4 ?zzw5 (apply_div _ _ _ _ _ _ _ _ _ _ _ _ _ _ _ _ _ _ _ _ _ ?zzB ?zzF ?zzX ?zzT ?zzhk ?zzN ?zzhx ?zzhy ?zzhy0 ?_); (case zzB => k_asm); (case zzF => k_asm); (case zzN => k_asm); (case zzw3 => exact rfl); (case zzX => k_asm); (case zzT => k_asm); (case zzhk => first | exact rfl | assumption); (case zzw1 => exact rfl); (case zzw2 => exact Nat.le_of_ble_eq_true rfl); (case zzw4 => exact rfl); (case zzw5 => exact Nat.le_of_ble_eq_true rfl); (case zzhx => first | with_reducible assumption | exact Sm.abs (by with_reducible assumption)); (case zzhy => first | with_reducible assumption | exact Sm.abs (by with_reducible assumption)); (case zzhy0 => with_reducible assumption)); intro _ _ _ _ _; (try dsimp only); (try k_sweep))
  k_with "own call ref" => ((with_reducible show wpAny _ _ (call (Value.ref 228) [_, Value.int _ _, Value.ref _, Value.str (Str.ofString "rem") _, Value.str _ _]) _ _ _); k_dflt (refine' wpAny_wk ?zzw1 ?zzw2 ?zzw3 ?zzw4 ?zzw5 (taken_T _ _ _ _ _ _ _ _ _ _ _ _ _ _ _ _ _ _ _ _ _ _ _ _ ?zzB ?zzF ?zzX ?zzT ?zzhk ?zzN ?zzhbl ?zzhI ?zzhlen ?zzhx ?zzhb ?_); (case zzB => k_asm); (case zzF => k_asm); (case zzN => k_asm); (case zzw3 => exact rfl); (case zzX => k_asm); (case zzT => k_asm); (case zzhk => first | exact rfl | assumption); (case zzw1 => exact rfl); (case zzw2 => exact Nat.le_of_ble_eq_true rfl); (case zzw4 => exact rfl); (case zzw5 => exact Nat.le_of_ble_eq_true rfl); (case zzhbl => k_mem); (case zzhI => with_reducible assumption); (case zzhlen => with_reducible assumption); (case zzhx => with_reducible assumption); (case zzhb => with_reducible assumption)); intro _ _ dvs' nd' _ _ _ _ _ l1 l2 _ _; (have l3 := lt_up (o := listOf dvs'.toArray nd') l1 l2); (try k_lt l1); (try k_lt l3); (try dsimp only); (try k_sweep))
  k_with "own call ref" => ((with_reducible show wpAny _ _ (call (Value.ref 228) [_, Value.int _ _, Value.ref _, Value.str (Str.ofString "mod") _, Value.str _ _]) _ _ _); k_dflt (refine' wpAny_wk ?zzw1 ?zzw2 ?zzw3 ?zzw4 ?zzw5 (taken_F _ _ _ _ _ _ _ _ _ _ _ _ _ _ _ _ _ _ _ _ _ _ _ _ ?zzB ?zzF ?zzX ?zzT ?zzhk ?zzN ?zzhbl ?zzhI ?zzhlen ?zzhx ?zzhb ?_); (case zzB => k_asm); (case zzF => k_asm); (case zzN => k_asm); (case zzw3 => exact rfl); (case zzX => k_asm); (case zzT => k_asm); (case zzhk => first | exact rfl | assumption); (case zzw1 => exact rfl); (case zzw2 => exact Nat.le_of_ble_eq_true rfl); (case zzw4 => exact rfl); (case zzw5 => exact Nat.le_of_ble_eq_true rfl); (case zzhbl => k_mem); (case zzhI => with_reducible assumption); (case zzhlen => with_reducible assumption); (case zzhx => with_reducible assumption); (case zzhb => with_reducible assumption)); intro _ _ dvs' nd' _ _ _ _ _ l1 l2 _ _; (have l3 := lt_up (o := listOf dvs'.toArray nd') l1 l2); (try k_lt l1); (try k_lt l3); (try dsimp only); (try k_sweep))
  k_with "own call ref" => ((with_reducible show wpAny _ _ (call (Value.ref 235) [Value.ref _, Value.ref _, Value.int _ _]) _ _ _); k_dflt (refine' wpAny_wk ?zzw1 ?zzw2 ?zzw3 ?zzw4 ?zzw5 (built_spec _ _ _ _ _ _ _ _ _ _ _ _ _ _ _ _ _ _ _ _ _ _ _ _ _ ?zzB ?zzF ?zzX ?zzT ?zzhk ?zzN ?zzhbl ?zzhdl ?zzhI ?zzhJ ?zzhlen ?zzhdlen ?zzhb ?_); (case zzB => k_asm); (case zzF => k_asm); (case zzN => k_asm); (case zzw3 => exact rfl); (case zzX => k_asm); (case zzT => k_asm); (case zzhk => first | exact rfl | assumption); (case zzw1 => exact rfl); (case zzw2 => exact Nat.le_of_ble_eq_true rfl); (case zzw4 => exact rfl); (case zzw5 => exact Nat.le_of_ble_eq_true rfl); (case zzhbl => k_mem); (case zzhdl => k_mem); (case zzhI => with_reducible assumption); (case zzhJ => with_reducible assumption); (case zzhlen => with_reducible assumption); (case zzhdlen => with_reducible first | exact digs_length _ _ _ _ | assumption); (case zzhb => with_reducible assumption)); intro _ _ _ _ _; (try dsimp only); (try k_sweep))
  k_with "own call builtin:len" => ((with_reducible show wpAny _ _ (call (Value.builtin "len") [Value.ref _]) _ _ _); k_dflt (refine' len_led (m := fun _ => none) ?zzN ?zzhm ?zzhi ?zzhl ?_; (case zzN => k_asm); (case zzhm => k_mem); (case zzhi => with_reducible assumption); (case zzhl => with_reducible assumption)); (try dsimp only))
  k_with "own subscriptTail" => ((with_reducible show wpAny _ _ (subscriptTail _ _ (Value.ref _) (Value.int _ _)) _ _ _); k_dflt (refine' item_led ?zzN ?zzhm ?zzhi ?zzh0 ?zzh1 ?zzh2 ?_; (case zzN => k_asm); (case zzhm => k_mem); (case zzhi => with_reducible assumption); (case zzh0 => with_reducible assumption); (case zzh1 => first | with_reducible assumption | ((try simp only [digs_length, LawIn.wl, List.length_map]); with_reducible assumption)); (case zzh2 => with_reducible assumption)); intro _)
  k_with "own compareOp NotEq ref ref" => ((with_reducible show wpAny _ _ (compareOp CmpOp.NotEq (Value.ref _) (Value.ref _)) _ _ _); k_dflt (refine' pair_ne ?zzN ?zzma ?zzca ?zzda ?zzmd ?zzhI ?zzmb ?zzcb ?zzdb ?zzme ?zzhJ ?zzhu ?zzhds ?zzhrq ?_; (case zzN => k_asm); (case zzma => k_mem); (case zzca => exact rfl); (case zzda => exact rfl); (case zzmd => k_mem); (case zzhI => with_reducible assumption); (case zzmb => k_mem); (case zzcb => exact rfl); (case zzdb => exact rfl); (case zzme => k_mem); (case zzhJ => with_reducible assumption); (case zzhu => ke_room); (case zzhds => with_reducible assumption); (case zzhrq => with_reducible assumption)))
  k_with "own MapEnd" => (k_dflt (refine' ⟨_, _, _, ?zze, rfl, ?zzF, ?zzN⟩; (case zzF => k_asm); (case zzN => k_asm); (case zze => first | exact rfl | exact congrArg (fun z => Value.int z _) (abs_if _))))
  k_with "own CompSrc" => ((with_reducible show LCg.CompSrc _ _ _ _ _ _ _ (Expr.UnaryOp _ _ _) _ _ _ _ _ _); k_dflt (refine' map_src (fun b => -b) ?zzhh ?zzF ?zzN ?zzhm ?zzhI ?zzhlen ?_ ?_; (case zzF => k_asm); (case zzN => k_asm); (case zzhh => exact rfl); (case zzhm => k_mem); (case zzhI => with_reducible assumption); (case zzhlen => with_reducible assumption)); ((intro _ _ _ _ _ _ _ _ _ _ _ _ _ _ _ _ _ _; (try k_sweep))); rotate_left; ((intro _ _ _; (try k_sweep))); rotate_right)
  k_with "own pyIter ref" => ((with_reducible show wpAny _ _ (pyIter (Value.ref _)) (fun it s₂ => LoopAtV _ _ _ _ _ _ _ _ _ it s₂) _ _); k_dflt (refine' wg_range ?zzhh ?zzhr ?zzF ?zzN ?zzhnum ?zzhlen ?_ ?_; (case zzF => k_asm); (case zzN => k_asm); (case zzhh => exact rfl); (case zzhr => with_reducible assumption); (case zzhnum => exact rfl); (case zzhlen => with_reducible assumption)); ((intro _ _ _ _ _ _ hk0' hk1' _ _ _; (have hq' := LawIn.turn1 (by with_reducible assumption) hk0' hk1'); (obtain ⟨hq1', hq2', hq3', hq4', hq5', hq6'⟩ := hq'); (try k_sweep))); rotate_left; (intro _ _ _ _ _ _; (try k_sweep)); rotate_right)
  k_with "own pyIter ref" => ((with_reducible show wpAny _ _ (pyIter (Value.ref _)) (fun it s₂ => LoopAtV _ _ _ _ _ _ _ _ _ it s₂) _ _); (fail_if_success (with_reducible show wpAny _ _ (pyIter (Value.ref _)) (fun it s₂ => LoopAtV _ _ _ _ _ _ (Stmt.If _ _ _ _ :: _) _ _ it s₂) _ _)); k_dflt (refine' tw_range ?zzhh ?zzhr ?zzF ?zzN ?zzhlen ?_ ?_; (case zzF => k_asm); (case zzN => k_asm); (case zzhh => exact rfl); (case zzhr => with_reducible assumption); (case zzhlen => with_reducible assumption)); ((intro _ _ _ _ _ _ hk0' hk1' _ _ _; (have hq' := LawIn.turnM (by with_reducible assumption) hk0' hk1'); (try k_sweep))); rotate_left; (intro _ _ _ _ _; (try k_sweep)); rotate_right)
  k_with "own WgPost" => (k_dflt (refine' wg_end ?zzF ?zzN ?zzhm ?zzho; (case zzF => k_asm); (case zzN => k_asm); (case zzhm => exact rfl); (case zzho => (intro _ h1 h2; simp only [h1, h2, if_false]))))
  k_with "own TwPost" => (k_dflt (refine' tw_end ?zzF ?zzN ?zzho; (case zzF => k_asm); (case zzN => k_asm); (case zzho => (intro _ h1 h2; simp only [h1, h2, if_false]))))
  k_with "own exec Return some" => ((with_reducible show wpAny _ _ (exec (Stmt.Return (some (Expr.Constant (Const.bool false) _ _)) _) _) _ _ _); exfalso; first | (with_reducible contradiction) | ((rename Turn2 _ _ _ => qT); first | exact qT.p1 (by with_reducible assumption) (by with_reducible assumption) | exact qT.p2 (by with_reducible assumption) (by with_reducible assumption) | exact qT.n1 (by with_reducible assumption) (by with_reducible assumption) | exact qT.n2 (by with_reducible assumption) (by with_reducible assumption)))
  k_with "own execs cons" => ((with_reducible show wpAny _ _ (execs ((Stmt.Assign [Expr.Tuple _ _ _] (Expr.Call _ [_, _, Expr.Name (Str.ofString "bases") _, Expr.Constant (Const.str (Str.ofString "mod")) _ _, _] _ _) _) :: _) _) _ _ _); refine Blk.rest ?_)
  k_with "own execs cons" => ((with_reducible show wpAny _ _ (execs ((Stmt.Assign [Expr.Tuple _ _ _] (Expr.Call _ [_, _, Expr.Name (Str.ofString "widths") _, Expr.Constant (Const.str (Str.ofString "mod")) _ _, _] _ _) _) :: _) _) _ _ _); refine Blk.rest ?_)
  k_with "own execs cons" => ((with_reducible show wpAny _ _ (execs ((Stmt.Assign [Expr.Name (Str.ofString "made") _] (Expr.Call _ _ _ _) _) :: _) _) _ _ _); refine Blk.rest ?_)
  k_with "own execs cons" => ((with_reducible show wpAny _ _ (execs ((Stmt.Assign [Expr.Name (Str.ofString "formal") _] _ _) :: _) _) _ _ _); refine Blk.rest ?_)
  refine' ⟨_, fun partRest => ?x⟩
  case x =>
    intro k1; intros
    refine Blk.wake ?_
    rename Frag.In _ _ => kIn; revert kIn; k_fill; intro kIn
    rename LawIn _ _ _ => hLaw
    have hSx := hLaw.sx
    have hBsm := hLaw.bsm
    have hBmul := hLaw.bmul
    have hWsm := hLaw.wsm
    have hWmul := hLaw.wmul
    have hB64 := hLaw.b64
    have hW64 := hLaw.w64
    have hSwt := hLaw.swt
    have hWt0 := hLaw.wt0
    have hFacts := LawIn.facts3 hLaw
    obtain ⟨hFa1, hFa2, hFa3⟩ := hFacts
    with_reducible refine wpAny_execs_cons ?_
    (try dsimp only)
    iterate 140 (all_goals (try walk1))
    (rename Fr _ _ _ _ => kFr); (rename News _ _ _ _ => kNews); (have kNewsB := cb_drop kNews (fun q hq => .tail _ (.tail _ (hq)))); (clear kNews); (revert kFr kNewsB); (clear hSx hBsm hBmul hWsm hWmul hB64 hW64 hSwt hWt0 hFa1 hFa2 hFa3); (repeat ((with_reducible rename Fr _ _ _ _ => junk); clear junk)); (repeat ((with_reducible rename News _ _ _ _ => junk); clear junk)); (repeat ((with_reducible rename IsRange _ _ _ _ _ _ _ _ => junk); clear junk)); (repeat ((with_reducible rename ∀ (b : Addr) (o : Obj), _ = _ → _ = _ => junk); clear junk)); (repeat ((with_reducible rename Sm _ => junk); clear junk)); (repeat ((with_reducible rename IntMulOk _ _ => junk); clear junk)); (revert hLaw kIn); (try revert hSm2); (try revert hSm3); (try revert hSr); (try revert hSxm); (try revert hSok); (try revert hSx); (try revert restF); (repeat (first | (rename_i kX; revert kX) | revert dvs' | revert h1 | revert h2 | revert hk0' | revert hk1' | revert hq' | revert hq1' | revert hq2' | revert hq3' | revert hq4' | revert hq5' | revert hq6' | revert l1 | revert l2 | revert l3 | revert nd' | revert qT)); (try revert tk); (revert k1); exact partRest.out
end Mine
end
theorem Mine.calm_S5 : True ∧ True := by
  w_top off
  k_with_none
  (try walk1)
  all_goals trivial
section
open PySem PySem.W PySem.Calls PySem.Spec PyProof.Rows
namespace Mine
def s5 : { P : Prop // Hld P → s4.1 } := by
  k_with_none
  k_with "own eval Call" => (k_dflt (refine Call_ ?_))
  k_with "own binaryOp Mult int int" => (k_dflt (refine mul_int ?_ (Sm.mul ?zzx ?zzy)); (case zzx => with_reducible assumption); (case zzy => with_reducible assumption))
  k_with "own call ref" => ((with_reducible show wpAny _ _ (call (Value.ref 200) [_, Value.str (Str.ofString "rem") _, Value.int _ _, Value.int _ _]) _ _ _); k_dflt (refine' wpAny_wk ?zzw1 ?zzw2 ?zzw3 ?zzw4 ?zzw5 (apply_rem _ _ _ _ _ _ _ _ _ _ _ _ _ _ _ _ _ _ _ _ _ ?zzB ?zzF ?zzX ?zzT ?zzhk ?zzN ?zzhx ?zzhy ?zzhy0 ?_); (case zzB => k_asm); (case zzF => k_asm); (case zzN => k_asm); (case zzw3 => exact rfl); (case zzX => k_asm); (case zzT => k_asm); (case zzhk => first | exact rfl | assumption); (case zzw1 => exact rfl); (case zzw2 => exact Nat.le_of_ble_eq_true rfl); (case zzw4 => exact rfl); (case zzw5 => exact Nat.le_of_ble_eq_true rfl); (case zzhx => first | with_reducible assumption | exact Sm.abs (by with_reducible assumption)); (case zzhy => first | with_reducible assumption | exact Sm.abs (by with_reducible assumption)); (case zzhy0 => with_reducible assumption)); intro _ _ _ _ _; (try dsimp only); (try k_sweep))
  k_with "own call ref" => ((with_reducible show wpAny _ _ (call (Value.ref 200) [_, Value.str (Str.ofString "//") _, Value.int _ _, Value.int _ _]) _ _ _); k_dflt (refine' wpAny_wk ?zzw1 ?zzw2 ?zzw3 ?zzw4 ?zzw5 (apply_quo _ _ _ _ _ _ _ _ _ _ _ _ _ _ _ _ _ _ _ _ _ ?zzB ?zzF ?zzX ?zzT ?zzhk ?zzN ?zzhx ?zzhy ?zzhy0 ?_); (case zzB => k_asm); (case zzF => k_asm); (case zzN => k_asm); (case zzw3 => exact rfl); (case zzX => k_asm); (case zzT => k_asm); (case zzhk => first | exact rfl | assumption); (case zzw1 => exact rfl); (case zzw2 => exact Nat.le_of_ble_eq_true rfl); (case zzw4 => exact rfl); (case zzw5 => exact Nat.le_of_ble_eq_true rfl); (case zzhx => first | with_reducible assumption | exact Sm.abs (by with_reducible assumption)); (case zzhy => first | with_reducible assumption | exact Sm.abs (by with_reducible assumption)); (case zzhy0 => with_reducible assumption)); intro _ _ _ _ _; (try dsimp only); (try k_sweep))
  k_with "own call ref" => ((with_reducible show wpAny _ _ (call (Value.ref 200) [_, Value.str (Str.ofString "mod") _, Value.int _ _, Value.int _ _]) _ _ _); k_dflt (refine' wpAny_wk ?zzw1 ?zzw2 ?zzw3 ?zzw4 ?zzw5 (apply_mod _ _ _ _ _ _ _ _ _ _ _ _ _ _ _ _ _ _ _ _ _ ?zzB ?zzF ?zzX ?zzT ?zzhk ?zzN ?zzhx ?zzhy ?zzhy0 ?_); (case zzB => k_asm); (case zzF => k_asm); (case zzN => k_asm); (case zzw3 => exact rfl); (case zzX => k_asm); (case zzT => k_asm); (case zzhk => first | exact rfl | assumption); (case zzw1 => exact rfl); (case zzw2 => exact Nat.le_of_ble_eq_true rfl); (case zzw4 => exact rfl); (case zzw5 => exact Nat.le_of_ble_eq_true rfl); (case zzhx => first | with_reducible assumption | exact Sm.abs (by with_reducible assumption)); (case zzhy => first | with_reducible assumption | exact Sm.abs (by with_reducible assumption)); (case zzhy0 => with_reducible assumption)); intro _ _ _ _ _; (try dsimp only); (try k_sweep))
  k_with "own call ref" => ((with_reducible show wpAny _ _ (call (Value.ref 200) [_, Value.str (Str.ofString "div") _, Value.int _ _, Value.int _ _]) _ _ _); k_dflt (refine' wpAny_wk ?zzw1 ?zzw2 ?zzw3 ?zzw4 ?zzw5 (apply_div _ _ _ _ _ _ _ _ _ _ _ _ _ _ _ _ _ _ _ _ _ ?zzB ?zzF ?zzX ?zzT ?zzhk ?zzN ?zzhx ?zzhy ?zzhy0 ?_); (case zzB => k_asm); (case zzF => k_asm); (case zzN => k_asm); (case zzw3 => exact rfl); (case zzX => k_asm); (case zzT => k_asm); (case zzhk => first | exact rfl | assumption); (case zzw1 => exact rfl); (case zzw2 => exact Nat.le_of_ble_eq_true rfl); (case zzw4 => exact rfl); (case zzw5 => exact Nat.le_of_ble_eq_true rfl); (case zzhx => first | with_reducible assumption | exact Sm.abs (by with_reducible assumption)); (case zzhy => first | with_reducible assumption | exact Sm.abs (by with_reducible assumption)); (case zzhy0 => with_reducible assumption)); intro _ _ _ _ _; (try dsimp only); (try k_sweep))
  k_with "own call ref" => ((with_reducible show wpAny _ _ (call (Value.ref 228) [_, Value.int _ _, Value.ref _, Value.str (Str.ofString "rem") _, Value.str _ _]) _ _ _); k_dflt (refine' wpAny_wk ?zzw1 ?zzw2 ?zzw3 ?zzw4 ?zzw5 (taken_T _ _ _ _ _ _ _ _ _ _ _ _ _ _ _ _ _ _ _ _ _ _ _ _ ?zzB ?zzF ?zzX ?zzT ?zzhk ?zzN ?zzhbl ?zzhI ?zzhlen ?zzhx ?zzhb ?_); (case zzB => k_asm); (case zzF => k_asm); (case zzN => k_asm); (case zzw3 => exact rfl); (case zzX => k_asm); (case zzT => k_asm); (case zzhk => first | exact rfl | assumption); (case zzw1 => exact rfl); (case zzw2 => exact Nat.le_of_ble_eq_true rfl); (case zzw4 => exact rfl); (case zzw5 => exact Nat.le_of_ble_eq_true rfl); (case zzhbl => k_mem); (case zzhI => with_reducible assumption); (case zzhlen => with_reducible assumption); (case zzhx => with_reducible assumption); (case zzhb => with_reducible assumption)); intro _ _ dvs' nd' _ _ _ _ _ l1 l2 _ _; (have l3 := lt_up (o := listOf dvs'.toArray nd') l1 l2); (try k_lt l1); (try k_lt l3); (try dsimp only); (try k_sweep))
  k_with "own call ref" => ((with_reducible show wpAny _ _ (call (Value.ref 228) [_, Value.int _ _, Value.ref _, Value.str (Str.ofString "mod") _, Value.str _ _]) _ _ _); k_dflt (refine' wpAny_wk ?zzw1 ?zzw2 ?zzw3 ?zzw4 ?zzw5 (taken_F _ _ _ _ _ _ _ _ _ _ _ _ _ _ _ _ _ _ _ _ _ _ _ _ ?zzB ?zzF ?zzX ?zzT ?zzhk ?zzN ?zzhbl ?zzhI ?zzhlen ?zzhx ?zzhb ?_); (case zzB => k_asm); (case zzF => k_asm); (case zzN => k_asm); (case zzw3 => exact rfl); (case zzX => k_asm); (case zzT => k_asm); (case zzhk => first | exact rfl | assumption); (case zzw1 => exact rfl); (case zzw2 => exact Nat.le_of_ble_eq_true rfl); (case zzw4 => exact rfl); (case zzw5 => exact Nat.le_of_ble_eq_true rfl); (case zzhbl => k_mem); (case zzhI => with_reducible assumption); (case zzhlen => with_reducible assumption); (case zzhx => with_reducible assumption); (case zzhb => with_reducible assumption)); intro _ _ dvs' nd' _ _ _ _ _ l1 l2 _ _; (have l3 := lt_up (o := listOf dvs'.toArray nd') l1 l2); (try k_lt l1); (try k_lt l3); (try dsimp only); (try k_sweep))
  k_with "own call ref" => ((with_reducible show wpAny _ _ (call (Value.ref 235) [Value.ref _, Value.ref _, Value.int _ _]) _ _ _); k_dflt (refine' wpAny_wk ?zzw1 ?zzw2 ?zzw3 ?zzw4 ?zzw5 (built_spec _ _ _ _ _ _ _ _ _ _ _ _ _ _ _ _ _ _ _ _ _ _ _ _ _ ?zzB ?zzF ?zzX ?zzT ?zzhk ?zzN ?zzhbl ?zzhdl ?zzhI ?zzhJ ?zzhlen ?zzhdlen ?zzhb ?_); (case zzB => k_asm); (case zzF => k_asm); (case zzN => k_asm); (case zzw3 => exact rfl); (case zzX => k_asm); (case zzT => k_asm); (case zzhk => first | exact rfl | assumption); (case zzw1 => exact rfl); (case zzw2 => exact Nat.le_of_ble_eq_true rfl); (case zzw4 => exact rfl); (case zzw5 => exact Nat.le_of_ble_eq_true rfl); (case zzhbl => k_mem); (case zzhdl => k_mem); (case zzhI => with_reducible assumption); (case zzhJ => with_reducible assumption); (case zzhlen => with_reducible assumption); (case zzhdlen => with_reducible first | exact digs_length _ _ _ _ | assumption); (case zzhb => with_reducible assumption)); intro _ _ _ _ _; (try dsimp only); (try k_sweep))
  k_with "own call builtin:len" => ((with_reducible show wpAny _ _ (call (Value.builtin "len") [Value.ref _]) _ _ _); k_dflt (refine' len_led (m := fun _ => none) ?zzN ?zzhm ?zzhi ?zzhl ?_; (case zzN => k_asm); (case zzhm => k_mem); (case zzhi => with_reducible assumption); (case zzhl => with_reducible assumption)); (try dsimp only))
  k_with "own subscriptTail" => ((with_reducible show wpAny _ _ (subscriptTail _ _ (Value.ref _) (Value.int _ _)) _ _ _); k_dflt (refine' item_led ?zzN ?zzhm ?zzhi ?zzh0 ?zzh1 ?zzh2 ?_; (case zzN => k_asm); (case zzhm => k_mem); (case zzhi => with_reducible assumption); (case zzh0 => with_reducible assumption); (case zzh1 => first | with_reducible assumption | ((try simp only [digs_length, LawIn.wl, List.length_map]); with_reducible assumption)); (case zzh2 => with_reducible assumption)); intro _)
  k_with "own compareOp NotEq ref ref" => ((with_reducible show wpAny _ _ (compareOp CmpOp.NotEq (Value.ref _) (Value.ref _)) _ _ _); k_dflt (refine' pair_ne ?zzN ?zzma ?zzca ?zzda ?zzmd ?zzhI ?zzmb ?zzcb ?zzdb ?zzme ?zzhJ ?zzhu ?zzhds ?zzhrq ?_; (case zzN => k_asm); (case zzma => k_mem); (case zzca => exact rfl); (case zzda => exact rfl); (case zzmd => k_mem); (case zzhI => with_reducible assumption); (case zzmb => k_mem); (case zzcb => exact rfl); (case zzdb => exact rfl); (case zzme => k_mem); (case zzhJ => with_reducible assumption); (case zzhu => ke_room); (case zzhds => with_reducible assumption); (case zzhrq => with_reducible assumption)))
  k_with "own MapEnd" => (k_dflt (refine' ⟨_, _, _, ?zze, rfl, ?zzF, ?zzN⟩; (case zzF => k_asm); (case zzN => k_asm); (case zze => first | exact rfl | exact congrArg (fun z => Value.int z _) (abs_if _))))
  k_with "own CompSrc" => ((with_reducible show LCg.CompSrc _ _ _ _ _ _ _ (Expr.UnaryOp _ _ _) _ _ _ _ _ _); k_dflt (refine' map_src (fun b => -b) ?zzhh ?zzF ?zzN ?zzhm ?zzhI ?zzhlen ?_ ?_; (case zzF => k_asm); (case zzN => k_asm); (case zzhh => exact rfl); (case zzhm => k_mem); (case zzhI => with_reducible assumption); (case zzhlen => with_reducible assumption)); ((intro _ _ _ _ _ _ _ _ _ _ _ _ _ _ _ _ _ _; (try k_sweep))); rotate_left; ((intro _ _ _; (try k_sweep))); rotate_right)
  k_with "own pyIter ref" => ((with_reducible show wpAny _ _ (pyIter (Value.ref _)) (fun it s₂ => LoopAtV _ _ _ _ _ _ _ _ _ it s₂) _ _); k_dflt (refine' wg_range ?zzhh ?zzhr ?zzF ?zzN ?zzhnum ?zzhlen ?_ ?_; (case zzF => k_asm); (case zzN => k_asm); (case zzhh => exact rfl); (case zzhr => with_reducible assumption); (case zzhnum => exact rfl); (case zzhlen => with_reducible assumption)); ((intro _ _ _ _ _ _ hk0' hk1' _ _ _; (have hq' := LawIn.turn1 (by with_reducible assumption) hk0' hk1'); (obtain ⟨hq1', hq2', hq3', hq4', hq5', hq6'⟩ := hq'); (try k_sweep))); rotate_left; (intro _ _ _ _ _ _; (try k_sweep)); rotate_right)
  k_with "own pyIter ref" => ((with_reducible show wpAny _ _ (pyIter (Value.ref _)) (fun it s₂ => LoopAtV _ _ _ _ _ _ _ _ _ it s₂) _ _); (fail_if_success (with_reducible show wpAny _ _ (pyIter (Value.ref _)) (fun it s₂ => LoopAtV _ _ _ _ _ _ (Stmt.If _ _ _ _ :: _) _ _ it s₂) _ _)); k_dflt (refine' tw_range ?zzhh ?zzhr ?zzF ?zzN ?zzhlen ?_ ?_; (case zzF => k_asm); (case zzN => k_asm); (case zzhh => exact rfl); (case zzhr => with_reducible assumption); (case zzhlen => with_reducible assumption)); ((intro _ _ _ _ _ _ hk0' hk1' _ _ _; (have hq' := LawIn.turnM (by with_reducible assumption) hk0' hk1'); (try k_sweep))); rotate_left; (intro _ _ _ _ _; (try k_sweep)); rotate_right)
  k_with "own WgPost" => (k_dflt (refine' wg_end ?zzF ?zzN ?zzhm ?zzho; (case zzF => k_asm); (case zzN => k_asm); (case zzhm => exact rfl); (case zzho => (intro _ h1 h2; simp only [h1, h2, if_false]))))
  k_with "own TwPost" => (k_dflt (refine' tw_end ?zzF ?zzN ?zzho; (case zzF => k_asm); (case zzN => k_asm); (case zzho => (intro _ h1 h2; simp only [h1, h2, if_false]))))
  k_with "own exec Return some" => ((with_reducible show wpAny _ _ (exec (Stmt.Return (some (Expr.Constant (Const.bool false) _ _)) _) _) _ _ _); exfalso; first | (with_reducible contradiction) | ((rename Turn2 _ _ _ => qT); first | exact qT.p1 (by with_reducible assumption) (by with_reducible assumption) | exact qT.p2 (by with_reducible assumption) (by with_reducible assumption) | exact qT.n1 (by with_reducible assumption) (by with_reducible assumption) | exact qT.n2 (by with_reducible assumption) (by with_reducible assumption)))
  k_with "own execs cons" => ((with_reducible show wpAny _ _ (execs ((Stmt.Assign [Expr.Tuple _ _ _] (Expr.Call _ [_, _, Expr.Name (Str.ofString "bases") _, Expr.Constant (Const.str (Str.ofString "mod")) _ _, _] _ _) _) :: _) _) _ _ _); refine Blk.rest ?_)
  k_with "own execs cons" => ((with_reducible show wpAny _ _ (execs ((Stmt.Assign [Expr.Tuple _ _ _] (Expr.Call _ [_, _, Expr.Name (Str.ofString "widths") _, Expr.Constant (Const.str (Str.ofString "mod")) _ _, _] _ _) _) :: _) _) _ _ _); refine Blk.rest ?_)
  k_with "own execs cons" => ((with_reducible show wpAny _ _ (execs ((Stmt.Assign [Expr.Name (Str.ofString "made") _] (Expr.Call _ _ _ _) _) :: _) _) _ _ _); refine Blk.rest ?_)
  k_with "own execs cons" => ((with_reducible show wpAny _ _ (execs ((Stmt.Assign [Expr.Name (Str.ofString "formal") _] _ _) :: _) _) _ _ _); refine Blk.rest ?_)
  refine' ⟨_, fun partRest => ?x⟩
  case x =>
    intro k1; intros
    refine Blk.wake ?_
    rename Frag.In _ _ => kIn; revert kIn; k_fill; intro kIn
    rename LawIn _ _ _ => hLaw
    have hSx := hLaw.sx
    have hBsm := hLaw.bsm
    have hBmul := hLaw.bmul
    have hWsm := hLaw.wsm
    have hWmul := hLaw.wmul
    have hB64 := hLaw.b64
    have hW64 := hLaw.w64
    have hSwt := hLaw.swt
    have hWt0 := hLaw.wt0
    have hDln := hLaw.dl
    have hD64 := hLaw.d64
    obtain ⟨hFa1, hFa2, hFa3⟩ := LawIn.facts4 hLaw
    obtain ⟨hFa4, hFa5, hFa6⟩ := LawIn.facts5 hLaw
    with_reducible refine wpAny_execs_cons ?_
    (try dsimp only)
    iterate 130 (all_goals (try walk1))
    (rename Fr _ _ _ _ => kFr); (rename News _ _ _ _ => kNews); (have kNewsB := cb_drop kNews (fun q hq => .tail _ (.tail _ (.tail _ (.tail _ (.tail _ (.tail _ (.tail _ (hq))))))))); (clear kNews); (revert kFr kNewsB); (clear hSx hBsm hBmul hWsm hWmul hB64 hW64 hSwt hWt0 hDln hD64 hFa1 hFa2 hFa3 hFa4 hFa5 hFa6); (repeat ((with_reducible rename Fr _ _ _ _ => junk); clear junk)); (repeat ((with_reducible rename News _ _ _ _ => junk); clear junk)); (repeat ((with_reducible rename IsRange _ _ _ _ _ _ _ _ => junk); clear junk)); (repeat ((with_reducible rename ∀ (b : Addr) (o : Obj), _ = _ → _ = _ => junk); clear junk)); (repeat ((with_reducible rename Sm _ => junk); clear junk)); (repeat ((with_reducible rename IntMulOk _ _ => junk); clear junk)); (revert hLaw kIn); (try revert hSm2); (try revert hSm3); (try revert hSr); (try revert hSxm); (try revert hSok); (try revert hSx); (try revert restF); (repeat (first | (rename_i kX; revert kX) | revert dvs' | revert h1 | revert h2 | revert hk0' | revert hk1' | revert hq' | revert hq1' | revert hq2' | revert hq3' | revert hq4' | revert hq5' | revert hq6' | revert l1 | revert l2 | revert l3 | revert nd' | revert qT)); (try revert tk); (revert k1); exact partRest.out
end Mine
end
theorem Mine.calm_E1 : True ∧ True := by
  w_top off
  k_with_none
  (try walk1)
  all_goals trivial
section
open PySem PySem.W PySem.Calls PySem.Spec PyProof.Rows
namespace Mine
theorem to_rest {P : Prop} {h₀ h : Heap} {L a3 a2 : Addr} {o3 o2 w3 w2 : Obj} {e1 e2 e3 e4 e5 e8 f1 f2 f8 : Addr × Obj} {c : SymSt} (N : News h₀ L h (e1 :: e2 :: e3 :: e4 :: e5 :: (a3, o3) :: (a2, o2) :: e8 :: (c.led ++ []))) (hO : c.Off [f1, f2, (a3, w3), (a2, w2), f8])
    (k : ∀ rest : List (Addr × Obj), News h₀ L h (c.led ++ rest) → c.Off rest → (a3, o3) ∈ rest → (a2, o2) ∈ rest → P) : P :=
  k [(a3, o3), (a2, o2)] (cb_drop N fun q hq => by
    simp only [List.mem_append, List.mem_cons, List.not_mem_nil, or_false] at hq ⊢
    rcases hq with h | h | h <;> simp [h])
    (fun p hp => by
      rcases List.mem_cons.mp hp with rfl | hp
      · exact hO (a3, w3) (.tail _ (.tail _ (.head _)))
      · rcases List.mem_cons.mp hp with rfl | hp
        · exact hO (a2, w2) (.tail _ (.tail _ (.tail _ (.head _))))
        · cases hp) (.head _) (.tail _ (.head _))
theorem sym_mem {c : SymSt} {x : Addr} (h : c.x = x) (rest : List (Addr × Obj)) : (x, instObj 154 c.dx) ∈ c.led ++ rest := by
  rw [← h]; exact .head _
def BallIn (c : SymSt) (rest : List (Addr × Obj)) (v : Value) : Prop := ∃ b bl, v = .ref b ∧ Ball c bl b ∧ ∀ p ∈ bl, p ∈ rest
theorem BallIn.up {c c' : SymSt} {r r' : List (Addr × Obj)} {v : Value} (h : BallIn c r v) (l : c.Le c') (hs : ∀ p ∈ r, p ∈ r') : BallIn c' r' v := by
  obtain ⟨b, bl, e, hb, hm⟩ := h
  exact ⟨b, bl, e, hb.up l, fun p hp => hs p (hm p hp)⟩
abbrev ballD (i f : Int) : PyData := .tuple [.str (Str.ofString "s"), .int 16, .tuple [.tuple [.str (Str.ofString "s"), .int f, .tuple [.tuple [.str (Str.ofString "a"), .int i]]], .tuple [.str (Str.ofString "a"), .int 25]]]
section
variable {prog : Program} {w : World} {A : Around} {E : Value → Shared → Prop} {s : Shared} {h₀ : Heap} {L : Addr}
theorem ball_reads {led : List (Addr × Obj)} {b D1 D2 D3 D4 D5 : Addr} {i f : Int} {k1 k2 k3 k4 k5 k6 k7 k8 : Tok} (N : News h₀ L s.heap led) (hs : ∀ p ∈ ballL b D1 D2 D3 D4 D5 i f k1 k2 k3 k4 k5 k6 k7 k8, p ∈ led) :
    ∃ as, Reads s.heap (.ref b) (ballD i f) as := by
  have g : ∀ p ∈ ballL b D1 D2 D3 D4 D5 i f k1 k2 k3 k4 k5 k6 k7 k8, s.heap.get? p.1 = some p.2 := fun p hp => (N p (hs p hp)).1
  have g0 := g _ (.head _)
  have g1 := g _ (.tail _ (.head _))
  have g2 := g _ (.tail _ (.tail _ (.head _)))
  have g3 := g _ (.tail _ (.tail _ (.tail _ (.head _))))
  have g4 := g _ (.tail _ (.tail _ (.tail _ (.tail _ (.head _)))))
  have g5 := g _ (.tail _ (.tail _ (.tail _ (.tail _ (.tail _ (.head _))))))
  have r5 := reads_tuple_at g5 rfl rfl (.cons (.str (Str.ofString "a") k7) (.cons (.int i k8) .nil))
  have r4 := reads_tuple_at g4 rfl rfl (.cons r5 .nil)
  have r3 := reads_tuple_at g3 rfl rfl (.cons (.str (Str.ofString "s") k5) (.cons (.int f k6) (.cons r4 .nil)))
  have r2 := reads_tuple_at g2 rfl rfl (.cons (.str (Str.ofString "a") k3) (.cons (.int 25 k4) .nil))
  have r1 := reads_tuple_at g1 rfl rfl (.cons r3 (.cons r2 .nil))
  exact ⟨_, reads_tuple_at g0 rfl rfl (.cons (.str (Str.ofString "s") k1) (.cons (.int 16 k2) (.cons r1 .nil)))⟩
theorem BallIn.reads {c : SymSt} {rest led : List (Addr × Obj)} {v : Value} (h : BallIn c rest v) (N : News h₀ L s.heap led) (hs : ∀ p ∈ rest, p ∈ led) :
    ∃ i f k8 ai ta ka k6 as, valueAt c.kvs (Str.ofString "zero_divisor") = some (.int i k8) ∧ valueAt c.kvs (Str.ofString "evaluation_error") = some (.int ai ta) ∧ atKey c.xs [ai, 1] = some (ka, .int f k6) ∧ Reads s.heap v (ballD i f) as := by
  obtain ⟨b, bl, rfl, ⟨D1, D2, D3, D4, D5, i, f, k1, k2, k3, k4, k5, k6, k7, k8, ai, ta, ka, rfl, h1, h2, h3⟩, hm⟩ := h
  obtain ⟨as, r⟩ := ball_reads N fun p hp => hs p (hm p hp)
  exact ⟨i, f, k8, ai, ta, ka, k6, as, h1, h2, h3, r⟩
theorem BallIn.one {c : SymSt} {rest led : List (Addr × Obj)} {v d : Value} (h : BallIn c rest v) (h' : BallIn c rest d) (N : News h₀ L s.heap led) (hs : ∀ p ∈ rest, p ∈ led) (P : PyData → Prop) (hP : ∀ i f, P (ballD i f)) :
    ∃ x as bs, Reads s.heap v x as ∧ Reads s.heap d x bs ∧ P x := by
  obtain ⟨i, f, k8, ai, ta, ka, k6, as, h1, h2, h3, r⟩ := h.reads N hs
  obtain ⟨i', f', k8', ai', ta', ka', k6', bs, h1', h2', h3', r'⟩ := h'.reads N hs
  rw [h1] at h1'; cases h1'
  rw [h2] at h2'; cases h2'
  rw [h3] at h3'; cases h3'
  exact ⟨_, as, bs, r, r', hP _ _⟩
theorem balls_shaped (i f : Int) : SeqAt.shaped (.list [ballD i f, ballD i f, ballD i f, ballD i f]) = true := by
  have h1 : PyData.strOk (Str.ofString "s") = true := by decide +kernel
  have h2 : PyData.strOk (Str.ofString "a") = true := by decide +kernel
  simp [SeqAt.shaped, PyData.canLay0, PyData.canLayAll0, PyData.depth, PyData.depthAll, h1, h2]
theorem balls_eq {led rest : List (Addr × Obj)} {c : SymSt} {a b : Addr} {oa ob : Obj} {na nb : Nat} {ys : List Value} {d : Value} {Q : Value → Shared → Prop}
    (N : News h₀ L s.heap led) (ma : (a, oa) ∈ led) (ca : oa.cls = .type "list") (da : oa.data = .seq ys.toArray na) (mb : (b, ob) ∈ led) (cb : ob.cls = .type "list") (db : ob.data = .seq #[d, d, d, d] nb)
    (hl : ys.length = 4) (hy : ∀ y ∈ ys, BallIn c rest y) (hd : BallIn c rest d) (hs : ∀ p ∈ rest, p ∈ led) (hu : A.units + 64 < cLine) (h : Q (.bool true) s) : wpAny (model prog w) A (compareOp .Eq (.ref a) (.ref b)) Q E s := by
  obtain ⟨y1, y2, y3, y4, rfl⟩ : ∃ y1 y2 y3 y4, ys = [y1, y2, y3, y4] := by
    match ys, hl with
    | [y1, y2, y3, y4], _ => exact ⟨y1, y2, y3, y4, rfl⟩
  obtain ⟨i, f, k8, ai, ta, ka, k6, bs, h1, h2, h3, rd⟩ := hd.reads N hs
  have one : ∀ y, BallIn c rest y → ∃ as, Reads s.heap y (ballD i f) as := by
    intro y hy
    obtain ⟨i', f', k8', ai', ta', ka', k6', as, h1', h2', h3', r'⟩ := hy.reads N hs
    rw [h1] at h1'; cases h1'
    rw [h2] at h2'; cases h2'
    rw [h3] at h3'; cases h3'
    exact ⟨as, r'⟩
  obtain ⟨a1, r1⟩ := one y1 (hy _ (.head _))
  obtain ⟨a2, r2⟩ := one y2 (hy _ (.tail _ (.head _)))
  obtain ⟨a3, r3⟩ := one y3 (hy _ (.tail _ (.tail _ (.head _))))
  obtain ⟨a4, r4⟩ := one y4 (hy _ (.tail _ (.tail _ (.tail _ (.head _)))))
  have ra := reads_list_at (N.get ma) ca da (.cons r1 (.cons r2 (.cons r3 (.cons r4 .nil))))
  have rb := reads_list_at (N.get mb) cb db (.cons rd (.cons rd (.cons rd (.cons rd .nil))))
  refine eq_dataH ra rb (balls_shaped i f) (balls_shaped i f) hu ?_
  have e : PyData.eqv (.list [ballD i f, ballD i f, ballD i f, ballD i f]) (.list [ballD i f, ballD i f, ballD i f, ballD i f]) = true := by
    simp [PyData.eqv, PyData.eqvAll]
  rw [e]
  exact h
end
end Mine
end
theorem Mine.calm_E2 : True ∧ True := by
  w_top off
  k_with_none
  (try walk1)
  all_goals trivial
section
open PySem PySem.W PySem.Calls PySem.Spec PyProof.Rows
namespace Mine
def NoEnd (prog : Program) (w : World) (h₀ : Heap) (L : Addr) (m : Str → Option Value) (s₁ : Shared) (c : SymSt) (n : Nat) (rest : List (Addr × Obj)) (y : Value) (s₂ : Shared) : Prop :=
  ∃ c' bl b h' tk', y = .ref b ∧ s₂ = { s₁ with heap := h', toks := tk' } ∧ c'.Ok prog w (n + 3) ∧ c.Le c' ∧ Ball c' bl b ∧ c'.Off (bl ++ rest) ∧ (∀ p ∈ bl, ∀ q ∈ rest, q.1 ≠ p.1) ∧ Fr h₀ L h' m ∧ News h₀ L h' (bl ++ (c'.led ++ rest))
def JNo (prog : Program) (w : World) (c₀ : SymSt) (n₀ : Nat) (rest₀ : List (Addr × Obj)) (i : Nat) (ys : List Value) (news : List (Addr × Obj)) : Prop :=
  ∃ c rest, news = c.led ++ rest ∧ c.Ok prog w (n₀ + 3 * i) ∧ c.Off rest ∧ c₀.Le c ∧ (∀ p ∈ rest₀, p ∈ rest) ∧ (∀ y ∈ ys, BallIn c rest y) ∧ ys.length = i
section
variable {prog : Program} {w : World} {A : Around} {s₁ : Shared} {h₀ : Heap} {L : Addr} {m : Str → Option Value} {env : Env}
theorem nought_src {elt : Expr} {x : Str} {scope : Scope} {cl : List (Str × Addr)} {Fin : Shared → List Value → List (Addr × Obj) → Prop} {ax : Addr} {nb n₀ : Nat} {wvs : List Value} {c₀ : SymSt} {led pre rest₀ : List (Addr × Obj)}
    (hh : A.handled = none) (F : Fr h₀ L s₁.heap m) (N : News h₀ L s₁.heap led) (hpre : Pre led (c₀.led ++ rest₀) pre) (hok : c₀.Ok prog w n₀) (hr : c₀.Off rest₀) (hw : AwayAll c₀ pre) (hm : (ax, listOf wvs.toArray nb) ∈ pre) (hstr : ∀ v ∈ wvs, ∃ t tk, v = .str t tk) (hlen : wvs.length = 4)
    (step : ∀ (c : SymSt) (n : Nat) (rest : List (Addr × Obj)) (t : Str) (tt : Tok) (C : Addr) (oC : Obj) (m₂ : Str → Option Value) (h : Heap) (tk : Nat) (E' : Value → Shared → Prop), c.Ok prog w n → n ≤ n₀ + 12 → (∀ y, c₀.x = y → c.x = y) → c.Off rest → (∀ p ∈ rest₀, p ∈ rest) → LCg.NsObj oC m₂ → m₂ x = some (.str t tt) → (C, oC) ∈ rest → Fr h₀ L h m → News h₀ L h (c.led ++ rest) →
      wpAny (model prog w) A (eval elt (compEnvC scope cl C env)) (NoEnd prog w h₀ L m { s₁ with heap := h, toks := tk } c n rest) E' { s₁ with heap := h, toks := tk })
    (fin : ∀ (g : Heap) (ys : List Value) (c : SymSt) (rest : List (Addr × Obj)), ys.length = 4 → (∀ y ∈ ys, BallIn c rest y) → c₀.Le c → (∀ p ∈ pre ++ rest₀, p ∈ rest) → Fin { s₁ with heap := g } ys (c.led ++ rest)) :
    LCg.CompSrc prog w A h₀ L m env elt x scope cl Fin (.ref ax) s₁ := by
  refine LCg.CompSrc.ledger hh F (led_in hpre N) (List.mem_append_right _ (List.mem_append_left _ hm)) (by rw [List.size_toArray, sizeLine_eq]; omega) fun g => ?_
  refine rest_ind 4 (JNo prog w c₀ n₀ (pre ++ rest₀)) ?_ ?_ _ 0 [] _ (by rw [List.size_toArray]; omega) ⟨c₀, pre ++ rest₀, rfl, hok, hw.off hr, SymSt.Le.refl _, fun _ h => h, (fun _ h => nomatch h), rfl⟩
  · rintro i ys news v I oI C oC D m₂ h tk E' hi ⟨c, rest, rfl, hok', hr', hle, hsub, hys, hyl⟩ hP hns hx F' N' off hne
    have hv : wvs[i]? = some v := by simpa using hP
    obtain ⟨t, tt, rfl⟩ := hstr v (List.mem_of_getElem? hv)
    have offm := off.mem
    have hr3 : c.Off ((I, oI) :: (C, oC) :: (D, LCg.lst ys) :: rest) :=
      SymSt.Off.cons (fun q hq => (offm q (List.mem_append_left _ hq)).1) (SymSt.Off.cons (fun q hq => (offm q (List.mem_append_left _ hq)).2.1) (SymSt.Off.cons (fun q hq => (offm q (List.mem_append_left _ hq)).2.2) hr'))
    refine wpAny_mono (step c (n₀ + 3 * i) ((I, oI) :: (C, oC) :: (D, LCg.lst ys) :: rest) t tt C oC m₂ h tk E' hok' (by omega) (fun y e => hle.ax.trans e) hr3 (fun p hp => .tail _ (.tail _ (.tail _ (hsub p (List.mem_append_right _ hp))))) hns hx (.tail _ (.head _)) F' (led_in Pre.c3 N')) (fun y s₂ hq => ?_) fun _ _ z => z
    obtain ⟨c', bl, b, h', tk', rfl, rfl, hok2, hle2, hball, hoff2, hbr, F2, N2⟩ := hq
    refine LCg.CompEnd.intro F2 N2 (c'.led ++ (bl ++ rest)) (fun p hp => ?_) (LCg.Off3.of fun p hp => ?_) (.inr ⟨listOf wvs.toArray nb, ?_, rfl, _, rfl⟩) ⟨c', bl ++ rest, rfl, ?_, ?_, hle.trans hle2, fun p hp => List.mem_append_right _ (hsub p hp), ?_, ?_⟩
    · simp only [List.mem_cons, List.mem_append] at hp ⊢
      rcases hp with h | h | h | h | h | h <;> simp [h]
    · rcases List.mem_append.mp hp with h | h
      · exact ⟨hoff2 (I, oI) (List.mem_append_right _ (.head _)) p h, hoff2 (C, oC) (List.mem_append_right _ (.tail _ (.head _))) p h, hoff2 (D, LCg.lst ys) (List.mem_append_right _ (.tail _ (.tail _ (.head _)))) p h⟩
      · rcases List.mem_append.mp h with h | h
        · exact ⟨Ne.symm (hbr p h (I, oI) (.head _)), Ne.symm (hbr p h (C, oC) (.tail _ (.head _))), Ne.symm (hbr p h (D, LCg.lst ys) (.tail _ (.tail _ (.head _))))⟩
        · exact offm p (List.mem_append_right _ h)
    · exact List.mem_append_right _ (List.mem_append_right _ (hsub _ (List.mem_append_left _ hm)))
    · rw [show n₀ + 3 * (i + 1) = n₀ + 3 * i + 3 by omega]; exact hok2
    · exact hoff2.sub fun p hp => by
        rcases List.mem_append.mp hp with h | h
        · exact List.mem_append_left _ h
        · exact List.mem_append_right _ (.tail _ (.tail _ (.tail _ h)))
    · intro y hy
      rcases List.mem_append.mp hy with h | h
      · exact (hys y h).up hle2 fun p hp => List.mem_append_right _ hp
      · rw [List.mem_singleton.mp h]
        exact ⟨b, bl, rfl, hball, fun p hp => List.mem_append_left _ hp⟩
    · rw [List.length_append, hyl]; rfl
  · rintro ys news ⟨c, rest, rfl, hok', hr', hle, hsub, hys, hyl⟩
    exact fin g ys c rest hyl hys hle hsub
end
end Mine
end
theorem Mine.calm_E3 : True ∧ True := by
  w_top off
  k_with_none
  (try walk1)
  all_goals trivial
section
open PySem PySem.W PySem.Calls PySem.Spec PyProof.Rows
namespace Mine
def SubLed (r r' : List (Addr × Obj)) : Prop := ∀ p ∈ r, p ∈ r'
theorem sub_at {r r' : List (Addr × Obj)} {p : Addr × Obj} (h : SubLed r r') (hp : p ∈ r) : p ∈ r' := h p hp
theorem to_due {P : Prop} {h₀ h : Heap} {L D0 D1 D2 D3 D4 D5 ka : Addr} {i f ai : Int} {k1 k2 k3 k4 k5 k6 k7 k8 ta : Tok} {c c' : SymSt} {restF : List (Addr × Obj)}
    (N : News h₀ L h (ballL D0 D1 D2 D3 D4 D5 i f k1 k2 k3 k4 k5 k6 k7 k8 ++ (c'.led ++ restF))) (hO : c'.Off restF) (h0 : ∀ q ∈ c'.led, q.1 ≠ D0) (h1 : ∀ q ∈ c'.led, q.1 ≠ D1) (h2 : ∀ q ∈ c'.led, q.1 ≠ D2) (h3 : ∀ q ∈ c'.led, q.1 ≠ D3) (h4 : ∀ q ∈ c'.led, q.1 ≠ D4) (h5 : ∀ q ∈ c'.led, q.1 ≠ D5)
    (e1 : valueAt c'.kvs (Str.ofString "zero_divisor") = some (.int i k8)) (e2 : valueAt c.kvs (Str.ofString "evaluation_error") = some (.int ai ta)) (e3 : atKey c.xs [ai, 1] = some (ka, .int f k6)) (hle : c.Le c')
    (k : ∀ rest : List (Addr × Obj), News h₀ L h (c'.led ++ rest) → c'.Off rest → BallIn c' rest (.ref D0) → SubLed restF rest → P) : P :=
  k (ballL D0 D1 D2 D3 D4 D5 i f k1 k2 k3 k4 k5 k6 k7 k8 ++ restF) (cb_drop N fun q hq => by
      simp only [List.mem_append] at hq ⊢
      rcases hq with h | h | h <;> simp [h])
    (AwayAll.off hO ⟨h0, h1, h2, h3, h4, h5, trivial⟩)
    ⟨D0, _, rfl, ⟨D1, D2, D3, D4, D5, i, f, k1, k2, k3, k4, k5, k6, k7, k8, ai, ta, ka, rfl, e1, hle.km _ _ e2, hle.fm _ _ e3⟩, fun _ hp => List.mem_append_left _ hp⟩
    fun _ hp => List.mem_append_right _ hp
theorem strs4 {a b c d : Str} {ta tb tc td : Tok} : ∀ v ∈ [Value.str a ta, .str b tb, .str c tc, .str d td], ∃ t tk, v = Value.str t tk := by
  intro v hv
  simp only [List.mem_cons, List.not_mem_nil, or_false] at hv
  rcases hv with rfl | rfl | rfl | rfl <;> exact ⟨_, _, rfl⟩
end Mine
end
theorem Mine.calm_S6 : True ∧ True := by
  w_top off
  k_with_none
  (try walk1)
  all_goals trivial
section
open PySem PySem.W PySem.Calls PySem.Spec PyProof.Rows
namespace Mine
def s6 : { P : Prop // Hld P → s5.1 } := by
  k_with_none
  k_with "own eval Call" => (k_dflt (refine Call_ ?_))
  k_with "own mem" => first | with_reducible assumption | (refine List.mem_append_right _ ?_; with_reducible assumption)
  k_with "own call ref" => ((with_reducible show wpAny _ _ (call (Value.ref 88) [Value.ref _, Value.str _ _]) _ _ _); k_dflt (refine' wpAny_wk ?zzw1 ?zzw2 ?zzw3 ?zzw4 ?zzw5 (atomP_spec _ _ _ _ _ _ _ _ _ _ _ _ _ _ _ _ _ _ _ _ _ _ ?zzB ?zzF ?zzX ?zzT ?zzhk ?zzN ?zzhok ?zzhpre ?zzhn ?zzhr ?zzhw ?zzhx ?_); (case zzB => k_asm); (case zzF => k_asm); (case zzN => k_asm); (case zzw3 => exact rfl); (case zzX => k_asm); (case zzT => k_asm); (case zzhk => first | exact rfl | with_reducible assumption); (case zzw1 => exact rfl); (case zzw2 => exact Nat.le_of_ble_eq_true rfl); (case zzw4 => exact rfl); (case zzw5 => exact Nat.le_of_ble_eq_true rfl); (case zzhok => with_reducible assumption); (case zzhpre => with_reducible exact Pre.c0); (case zzhn => omega); (case zzhr => with_reducible assumption); (case zzhw => exact trivial); (case zzhx => first | exact rfl | with_reducible assumption)); intro _ _ _ _ _ _ _ _ _ _ _ _ _ _ N'; (simp only [List.cons_append, List.nil_append] at N'); (try dsimp only); (try k_sweep))
  k_with "own call ref" => ((with_reducible show wpAny _ _ (call (Value.ref 109) [Value.ref _, Value.str _ _, Value.int _ _]) _ _ _); k_dflt (refine' wpAny_wk ?zzw1 ?zzw2 ?zzw3 ?zzw4 ?zzw5 (funcP_spec _ _ _ _ _ _ _ _ _ _ _ _ _ _ _ _ _ _ _ _ _ _ _ _ ?zzB ?zzF ?zzX ?zzT ?zzhk ?zzN ?zzhok ?zzhpre ?zzhn ?zzhr ?zzhw ?zzhx ?_); (case zzB => k_asm); (case zzF => k_asm); (case zzN => k_asm); (case zzw3 => exact rfl); (case zzX => k_asm); (case zzT => k_asm); (case zzhk => first | exact rfl | with_reducible assumption); (case zzw1 => exact rfl); (case zzw2 => exact Nat.le_of_ble_eq_true rfl); (case zzw4 => exact rfl); (case zzw5 => exact Nat.le_of_ble_eq_true rfl); (case zzhok => with_reducible assumption); (case zzhpre => with_reducible exact Pre.c0); (case zzhn => omega); (case zzhr => with_reducible assumption); (case zzhw => exact trivial); (case zzhx => first | exact rfl | with_reducible assumption)); intro _ _ _ _ _ _ _ _ _ _ _ _ _ _ _ _ _ N'; (simp only [List.cons_append, List.nil_append] at N'); (try dsimp only); (try k_sweep))
  k_with "own execs cons" => ((with_reducible show wpAny _ _ (execs ((Stmt.Return (some (Expr.Compare _ _ _ _)) _) :: _) _) _ _ _); refine Blk.rest ?_)
  refine' ⟨_, fun partRest => ?x⟩
  case x =>
    intro k1; intros
    refine Blk.wake ?_
    rename Frag.In _ _ => kIn; revert kIn; k_fill; intro kIn
    rename LawIn _ _ _ => hLaw
    rename SymSt.Off _ _ => hOff
    rename SymSt.Ok _ _ _ _ => hSok
    rename SymSt.x _ = _ => hSx
    rename News _ _ _ _ => kNews
    refine to_rest kNews hOff ?_
    clear kNews hOff
    intro restF kNews hSr hSm3 hSm2
    have hSxm := sym_mem hSx restF
    iterate 85 (all_goals (try walk1))
    (rename Fr _ _ _ _ => kFr); (rename News _ _ _ _ => kNews); (have kNewsB := cb_drop kNews (fun q hq => hq)); (clear kNews); (revert kFr kNewsB); (repeat ((with_reducible rename Fr _ _ _ _ => junk); clear junk)); (repeat ((with_reducible rename News _ _ _ _ => junk); clear junk)); (repeat ((with_reducible rename IsRange _ _ _ _ _ _ _ _ => junk); clear junk)); (repeat ((with_reducible rename ∀ (b : Addr) (o : Obj), _ = _ → _ = _ => junk); clear junk)); (repeat ((with_reducible rename Sm _ => junk); clear junk)); (repeat ((with_reducible rename IntMulOk _ _ => junk); clear junk)); (revert hLaw kIn); (try revert hSm2); (try revert hSm3); (try revert hSr); (try revert hSxm); (try revert hSok); (try revert hSx); (try revert restF); (repeat (first | (rename_i kX; revert kX) | revert N')); (try revert tk); (revert k1); exact partRest.out
end Mine
end
theorem Mine.calm_E4 : True ∧ True := by
  w_top off
  k_with_none
  (try walk1)
  all_goals trivial
section
open PySem PySem.W PySem.Calls PySem.Spec PyProof.Rows
namespace Mine
theorem post_shape : WShape.has [] (WData.bool true) .bool = true := by decide +kernel
theorem post_same : W.same (WData.bool true) (WData.bool true) = true := by decide +kernel
theorem post_holds (args : List WData) : WTm.holds [] (.eq .res (.lit (.bool true))) { args := args, res := some (.bool true), after := args } = true := by
  simp [WTm.holds, WTm.value, post_same]
theorem law_good {cl : Str → Option Addr} {mean : ExcName → Option Value} {args : List WData} {s₁ s' : Shared} (hk : ∀ b o, s₁.heap.get? b = some o → s'.heap.get? b = some o) (ho : s'.os = s₁.os) (hg : s'.gens = #[]) :
    GoodW PySem.Challenge.rw_rh0067_01.row.claim cl mean args s₁ (.ok (.ret (.bool true))) s' := by
  refine ⟨.inl ⟨.bool true, .bool true, [], rfl, fun _ => rfl, .bool true, ?_, fun _ => ⟨List.nodup_nil, fun _ h => nomatch h⟩⟩, hk, ho, hg⟩
  show (WShape.has [] (WData.bool true) .bool && WTm.holds [] (.eq .res (.lit (.bool true))) { args := args, res := some (.bool true), after := args }) = true
  rw [post_shape, post_holds]
  rfl
end Mine
end
theorem Mine.calm_S7 : True ∧ True := by
  w_top off
  k_with_none
  (try walk1)
  all_goals trivial
section
open PySem PySem.W PySem.Calls PySem.Spec PyProof.Rows
namespace Mine
theorem s7 : s6.1 := by
  k_with_none
  k_with "own eval Call" => (k_dflt (refine Call_ ?_))
  k_with "own mem" => first | with_reducible assumption | (refine List.mem_append_right _ ?_; k_mem) | (refine sub_at (by with_reducible assumption) ?_; k_mem)
  k_with "own call ref" => ((with_reducible show wpAny _ _ (call (Value.ref 242) [Value.ref _, Value.str _ _, Value.int _ _]) _ _ _); k_dflt (refine' wpAny_wk ?zzw1 ?zzw2 ?zzw3 ?zzw4 ?zzw5 (nought_spec _ _ _ _ _ _ _ _ _ _ _ _ _ _ _ _ _ _ _ _ _ ?zzB ?zzF ?zzX ?zzT ?zzXB ?zzTB ?zzhk ?zzN ?zzhok ?zzhn ?zzhr ?zzhx ?_); (case zzB => k_asm); (case zzF => k_asm); (case zzN => k_asm); (case zzw3 => exact rfl); (case zzX => k_asm); (case zzT => k_asm); (case zzXB => k_asm); (case zzTB => k_asm); (case zzhk => exact rfl); (case zzw1 => exact rfl); (case zzw2 => exact Nat.le_of_ble_eq_true rfl); (case zzw4 => exact rfl); (case zzw5 => exact Nat.le_of_ble_eq_true rfl); (case zzhok => with_reducible assumption); (case zzhn => with_reducible assumption); (case zzhr => with_reducible assumption); (case zzhx => with_reducible assumption)); intro _ _ _ _ _ _ _ _ _ _ _ _; (try k_sweep))
  k_with "own NoEnd" => (k_dflt (refine' ⟨_, _, _, _, _, rfl, rfl, ?zza, ?zzb, ?zzc, ?zzd, ?zze, ?zzF, ?zzN⟩; (case zzc => with_reducible assumption); (case zza => with_reducible assumption); (case zzb => with_reducible assumption); (case zzd => with_reducible assumption); (case zze => with_reducible assumption); (case zzF => k_asm); (case zzN => k_asm)))
  k_with "own CompSrc" => (k_dflt (refine' nought_src ?zzhh ?zzF ?zzN ?zzhpre ?zzhok ?zzhr ?zzhw ?zzhm ?zzhstr ?zzhlen ?_ ?_; (case zzF => k_asm); (case zzN => k_asm); (case zzhh => exact rfl); (case zzhpre => with_reducible first | exact Pre.c0 | exact Pre.c1 | exact Pre.c2); (case zzhok => with_reducible assumption); (case zzhr => with_reducible assumption); (case zzhw => exact ⟨by first | exact away_lt (by with_reducible assumption) | exact away_al (by with_reducible assumption), trivial⟩); (case zzhm => exact List.Mem.head _); (case zzhstr => exact strs4); (case zzhlen => exact rfl)); ((intro _ _ _ _ _ _ _ _ _ _ _ _ hn' hx' _ hsub' _ _ _ _ _; (k_dflt (have hn2' := Nat.le_trans hn' (show _ ≤ 3000 by decide))); (have hx2' := hx' _ (by with_reducible assumption)); (k_dflt (have hsl' : SubLed _ _ := hsub')); (try k_sweep))); rotate_left; ((intro _ _ _ _ _ _ hle' hsub'; (k_dflt (have hdue' := BallIn.up (by with_reducible assumption) hle' (fun p hp => hsub' p (List.mem_append_right _ hp)))); (try k_sweep))); rotate_right)
  k_with "own compareOp Eq ref ref" => ((with_reducible show wpAny _ _ (compareOp CmpOp.Eq (Value.ref _) (Value.ref _)) _ _ _); k_dflt (refine' balls_eq ?zzN ?zzma ?zzca ?zzda ?zzmb ?zzcb ?zzdb ?zzhl ?zzhy ?zzhd ?zzhs ?zzhu ?_; (case zzN => k_asm); (case zzma => k_mem); (case zzca => exact rfl); (case zzda => exact rfl); (case zzmb => k_mem); (case zzcb => exact rfl); (case zzdb => exact rfl); (case zzhl => with_reducible assumption); (case zzhy => with_reducible assumption); (case zzhd => with_reducible assumption); (case zzhs => exact fun p hp => .tail _ (.tail _ (List.mem_append_right _ hp))); (case zzhu => ke_room)))
  intro k1; intros
  refine Blk.wake ?_
  rename Frag.In _ _ => kIn; revert kIn; k_fill; intro kIn
  rename News _ _ _ _ => kNews
  refine to_due kNews (by with_reducible assumption) (away_al (And.right (And.right (And.right (And.right (And.right (by with_reducible assumption))))))) (away_al (And.right (And.right (And.right (And.right (by with_reducible assumption)))))) (away_al (And.right (And.right (And.right (by with_reducible assumption))))) (away_al (And.right (And.right (by with_reducible assumption)))) (away_al (And.right (by with_reducible assumption))) (away_lt (by with_reducible assumption)) (by with_reducible assumption) (by with_reducible assumption) (by with_reducible assumption) (by with_reducible assumption) ?_
  clear kNews
  intro restG kNews hSr hSball hSsub
  iterate 40 (all_goals (try walk1))
  refine' law_good ?hk ?ho ?hg
  case hk => exact Fr.keep (by with_reducible assumption)
  case ho => exact rfl
  case hg => with_reducible assumption
end Mine
end
open PySem PySem.W PyProof.Rows
theorem PySem.Challenge.cw_rh0067_01_holds : PySem.Challenge.rw_rh0067_01.Holds := by
  exact Mine.s1.2 ⟨Mine.s2.2 ⟨Mine.s3.2 ⟨Mine.s4.2 ⟨Mine.s5.2 ⟨Mine.s6.2 ⟨Mine.s7⟩⟩⟩⟩⟩⟩
