import PyProof.Rows.All
import Wide.All
import OpenK.AllK
import Wide.FinOn
import PySem.Challenge.RW_leastlore_k02_checks_of_one_number_chang
import HandS.ForMost
import HandS.IsInst
import HandS.Wide
import HandS.Style
set_option Elab.async false
set_option linter.all false
set_option maxRecDepth 100000
set_option maxHeartbeats 4000000
/-! ### what serves every law -/
namespace My
open PySem PySem.Spec PyProof.Rows L2
/-- the def x of the text stands, binds its arguments, and keeps its promise -/
structure Ok (P : Program) (w : World) (K : PySem.W.Frag) (mg : Str → Option Value) (base : Heap) (CX : CXT) (x : Str) (k : Nat) (ps : List Str) (sp : Sp) : Prop where
  ex : ∃ (f : Addr) (fd : FuncData), mg x = some (.ref f) ∧ PySem.W.keepIn K (.ref f) = true ∧ Binds K fd ps [] ∧ FnOk P w K mg base CX k f fd ps sp
section
variable {X : Cx}
theorem pe_callO {CX : CXT} {x : Str} {k : Nat} {ps : List Str} {sp : Sp} {E : XK} {e : Expr} {es : List Expr} {t : TA} {p pos : Pos} (G : Ok X.prog X.w X.K X.mg X.base CX x k ps sp) (hr : Room k X.A) (hg : Gl X x) (hx : Passes CX X E) (ha : PA X (e :: es) t)
    (hdb : (x == ("__debug__" : Str)) = false := by decide) (he : starEach (e :: es) X.env = (false, eval e X.env) :: starEach es X.env := by rfl) (hpl : (backTo pos (starEach es X.env)).any (·.1) = false := by rfl) :
    PE X (.Call (.Name x p) (e :: es) [] pos) (tCall sp [] E t) := by
  obtain ⟨f, fd, m, kp, b, F⟩ := G.ex
  exact pe_call F hr hg m kp b .nil hx ha hdb he hpl
theorem pe_callO0 {CX : CXT} {x : Str} {k : Nat} {ps : List Str} {sp : Sp} {E : XK} {p pos : Pos} (G : Ok X.prog X.w X.K X.mg X.base CX x k ps sp) (hr : Room k X.A) (hg : Gl X x) (hx : Passes CX X E)
    (hdb : (x == ("__debug__" : Str)) = false := by decide) : PE X (.Call (.Name x p) [] [] pos) (tCall sp [] E tNil) := by
  obtain ⟨f, fd, m, kp, b, F⟩ := G.ex
  exact pe_call0 F hr hg m kp b .nil hx hdb
end
/-- the def st stands under the name x in the written part -/
structure At (K : PySem.W.Frag) (x : Str) (st : Stmt) : Prop where
  ex : ∃ (f : Addr) (fd : FuncData), PySem.W.nsIn K mainGlobals x = some (some (.ref f)) ∧ Fun K x x st f fd
theorem at_mk {K : PySem.W.Frag} {x : Str} {st : Stmt} {f : Addr} {oc : Value} {od an : Option Addr} {osl : Array (Option Value)} {kV doc pm cdv ct : Value} (a : PySem.W.nsIn K mainGlobals x = some (some (.ref f)))
    (l : K.lookup f = some ⟨oc, od, .func (PySem.W.fnOf x x (defArgs st) (defBody st) (defScope st) .none kV doc pm an cdv ct), osl⟩)
    (c : PySem.W.codeIn K cdv x = true) (k : PySem.W.keepIn K (.ref f) = true) : At K x st := ⟨f, _, a, fun_mk l c k⟩
/-- from where it stands and what its body keeps -/
theorem At.ok {P : Program} {w : World} {K : PySem.W.Frag} {mg : Str → Option Value} {base h : Heap} {CX : CXT} {x : Str} {st : Stmt} {k : Nat} {ps : List Str} {sp : Sp} (A : At K x st) (X : K.In h) (G : h.Ns mainGlobals mg)
    (hb : ∀ (kV doc pm : Value) (an : Option Addr) (cdv ct : Value) (us : List Value), us.length = ps.length → bindArgs (PySem.W.fnOf x x (defArgs st) (defBody st) (defScope st) .none kV doc pm an cdv ct) ⟨us, []⟩ = pure (ps.zip us))
    (hF : ∀ f fd, Fun K x x st f fd → FnOk P w K mg base CX k f fd ps sp) : Ok P w K mg base CX x k ps sp := by
  obtain ⟨f, fd, a, F⟩ := A.ex
  exact ⟨f, fd, PySem.W.mg_of X G a, F.kp, F.binds hb, hF f fd F⟩
/-! ### heaps: a box of draws at b changes, new things come, all else stands -/
def Box (H : Hp) (b : Addr) : Prop := ∃ d m c : Int, H b = some (.lst [.int d, .int m, .int c])
structure Keep (b : Addr) (H H' : Hp) : Prop where
  box : Box H' b
  old : ∀ a o, a ≠ b → H a = some o → H' a = some o
theorem Keep.refl {b : Addr} {H : Hp} (h : Box H b) : Keep b H H := ⟨h, fun _ _ _ e => e⟩
theorem Keep.trans {b : Addr} {H H1 H2 : Hp} (k : Keep b H H1) (l : Keep b H1 H2) : Keep b H H2 := ⟨l.box, fun a o n e => l.old a o n (k.old a o n e)⟩
theorem Box.some {H : Hp} {b : Addr} (h : Box H b) : ∃ o, H b = some o := by
  obtain ⟨d, m, c, e⟩ := h
  exact ⟨_, e⟩
theorem Box.new {H : Hp} {b p : Addr} {o : HO} (h : Box H b) (n : H p = none) : Box (upd H p o) b := by
  obtain ⟨d, m, c, e⟩ := h
  exact ⟨d, m, c, by rw [upd_ne (ne_of_none e n)]; exact e⟩
theorem Keep.new {b p : Addr} {H H' : Hp} {o : HO} (k : Keep b H H') (n : H' p = none) : Keep b H (upd H' p o) :=
  ⟨k.box.new n, fun a u na e => by rw [upd_ne (ne_of_none (k.old a u na e) n)]; exact k.old a u na e⟩
theorem Keep.seq {K : PySem.W.Frag} {b a : Addr} {H H' : Hp} {xs : List V} (k : Keep b H H') (n : a ≠ b) (h : SqL K H a xs) : SqL K H' a xs := by
  rcases h with (h | ⟨o, h⟩) | h
  · exact .inl (.inl (k.old _ _ n h))
  · exact .inl (.inr ⟨o, k.old _ _ n h⟩)
  · exact .inr h
theorem same_upd {H : Hp} {p : Addr} {o : HO} (h : H p = none) : Same H (upd H p o) := fun b x e => by
  rw [upd_ne (ne_of_none e h)]
  exact e
theorem Same.new {H H' : Hp} {p : Addr} {o : HO} (k : Same H H') (h : H' p = none) : Same H (upd H' p o) := k.trans (same_upd h)
theorem Box.same {H H' : Hp} {b : Addr} (h : Box H b) (s : Same H H') : Box H' b := by
  obtain ⟨d, m, c, e⟩ := h
  exact ⟨d, m, c, s _ _ e⟩
theorem Same.keep {H H' : Hp} {b : Addr} (h : Box H b) (s : Same H H') : Keep b H H' := ⟨h.same s, fun a o _ e => s a o e⟩
theorem Keep.free {b p : Addr} {H H' : Hp} (k : Keep b H H') (h : Box H b) (n : H' p = none) : H p = none := by
  cases q : H p with
  | none => rfl
  | some o =>
    by_cases e : p = b
    · subst e
      obtain ⟨d, m, c, e2⟩ := k.box
      rw [e2] at n
      cases n
    · rw [k.old p o e q] at n
      cases n
end My

namespace My
open PySem PySem.Spec PyProof.Rows L2
def topS (i : Nat) : Stmt := PySem.Challenge.pw_leastlore_k02_checks_of_one_number_chang.main.body.getD i (.Pass ⟨0, 0, 0, 0⟩)
abbrev sis_whole : Stmt := topS 4
theorem scis_whole : FnScope ["thing"] ["thing"] (defScope sis_whole) := ⟨rfl, rfl, rfl, by decide +kernel, rfl, by decide +kernel, by decide +kernel⟩

abbrev sis_within : Stmt := topS 5
theorem scis_within : FnScope ["thing", "low", "high"] ["thing", "low", "high"] (defScope sis_within) := ⟨rfl, rfl, rfl, by decide +kernel, rfl, by decide +kernel, by decide +kernel⟩

abbrev scheck_of : Stmt := topS 12
theorem sccheck_of : FnScope ["numbers", "check", "number"] ["numbers"] (defScope scheck_of) := ⟨rfl, rfl, rfl, by decide +kernel, rfl, by decide +kernel, by decide +kernel⟩

abbrev s_law_cell_at : Stmt := topS 14
theorem sc_law_cell_at : FnScope ["_law_script", "_law_k"] ["_law_script", "_law_k"] (defScope s_law_cell_at) := ⟨rfl, rfl, rfl, by decide +kernel, rfl, by decide +kernel, by decide +kernel⟩

abbrev s_law_box : Stmt := topS 15
theorem sc_law_box : FnScope ["_law_cell"] ["_law_cell"] (defScope s_law_box) := ⟨rfl, rfl, rfl, by decide +kernel, rfl, by decide +kernel, by decide +kernel⟩

abbrev s_law_take : Stmt := topS 16
theorem sc_law_take : FnScope ["_law_box_here", "_law_many", "_law_number", "_law_digit"] ["_law_box_here", "_law_many"] (defScope s_law_take) := ⟨rfl, rfl, rfl, by decide +kernel, rfl, by decide +kernel, by decide +kernel⟩

abbrev s_law_crossed : Stmt := topS 17
theorem sc_law_crossed : FnScope ["_law_one", "_law_other"] ["_law_one", "_law_other"] (defScope s_law_crossed) := ⟨rfl, rfl, rfl, by decide +kernel, rfl, by decide +kernel, by decide +kernel⟩

abbrev s_law_word : Stmt := topS 19
theorem sc_law_word : FnScope ["_law_box_here", "_law_some"] ["_law_box_here"] (defScope s_law_word) := ⟨rfl, rfl, rfl, by decide +kernel, rfl, by decide +kernel, by decide +kernel⟩

abbrev s_law_other_word : Stmt := topS 20
theorem sc_law_other_word : FnScope ["_law_box_here", "_law_word_here", "_law_some"] ["_law_box_here", "_law_word_here"] (defScope s_law_other_word) := ⟨rfl, rfl, rfl, by decide +kernel, rfl, by decide +kernel, by decide +kernel⟩

abbrev slaw : Stmt := topS 21
theorem sclaw : FnScope ["_law_script", "_law_k", "_law_box_here", "_law_numbers", "_law_turn", "_law_check_here", "_law_at", "_law_other", "_law_changed", "_law_j"] ["_law_script"] (defScope slaw) := ⟨rfl, rfl, rfl, by decide +kernel, rfl, by decide +kernel, by decide +kernel⟩

/-! ### the mathematics -/
def stp (c n : Int) : Int := Builtin.bitXor (Builtin.bitAnd (Builtin.bitXor c n * 2654435769 + 40503) 4294967295) (Builtin.bitAnd (Builtin.bitXor c n * 2654435769 + 40503) 4294967295 / 2 ^ (15 : Int).toNat)
def chk (ns : List Int) : Int := ns.foldl stp 2166136261
def W (n : Int) : Prop := 0 ≤ n ∧ n < 4294967296
def stpN (c n : Nat) : Nat := ((c ^^^ n) * 2654435769 + 40503) % 4294967296 ^^^ (((c ^^^ n) * 2654435769 + 40503) % 4294967296) >>> 15
theorem back_mul {N T U q z : Nat} (hT : T * U = N * q + 1) (hz : z < N) : (z * T % N) * U % N = z := by
  rw [Nat.mod_mul_mod, Nat.mul_assoc, hT, Nat.mul_add, Nat.mul_one, Nat.mul_left_comm, Nat.add_comm, Nat.add_mul_mod_self_left]
  exact Nat.mod_eq_of_lt hz
theorem off {x y : Nat} (h : (x + 40503) % 4294967296 = (y + 40503) % 4294967296) : x % 4294967296 = y % 4294967296 := by omega
theorem mul_inj {a b : Nat} (ha : a < 4294967296) (hb : b < 4294967296) (h : (a * 2654435769 + 40503) % 4294967296 = (b * 2654435769 + 40503) % 4294967296) : a = b := by
  have e1 : a * 2654435769 % 4294967296 = b * 2654435769 % 4294967296 := by
    exact off h
  have hT : 2654435769 * 340573321 = 4294967296 * 210485888 + 1 := by decide +kernel
  have ea := back_mul hT ha
  have eb := back_mul hT hb
  rw [e1] at ea
  exact ea.symm.trans eb
theorem unshift {x : Nat} (h : x < 4294967296) : (x ^^^ x >>> 15) ^^^ ((x ^^^ x >>> 15) >>> 15 ^^^ (x ^^^ x >>> 15) >>> 30) = x := by
  apply Nat.eq_of_testBit_eq
  intro i
  have z : x.testBit (15 + (15 + (15 + i))) = false := by
    apply Nat.testBit_lt_two_pow
    exact Nat.lt_of_lt_of_le h (Nat.le_trans (by decide : 4294967296 ≤ 2 ^ 45) (Nat.pow_le_pow_right (by decide) (by omega)))
  have z2 : x.testBit (15 + (30 + i)) = false := by
    rw [show 15 + (30 + i) = 15 + (15 + (15 + i)) by omega]; exact z
  have z3 : x.testBit (30 + i) = x.testBit (15 + (15 + i)) := by
    rw [show 15 + (15 + i) = 30 + i by omega]
  simp only [Nat.testBit_xor, Nat.testBit_shiftRight, z2, z3]
  cases x.testBit i <;> cases x.testBit (15 + i) <;> cases x.testBit (15 + (15 + i)) <;> rfl
theorem xor_inj {a b c : Nat} (h : a ^^^ b = a ^^^ c) : b = c := by
  have e := congrArg (a ^^^ ·) h
  simpa [← Nat.xor_assoc] using e
theorem xor_lt {a b : Nat} (ha : a < 4294967296) (hb : b < 4294967296) : a ^^^ b < 4294967296 := Nat.xor_lt_two_pow (n := 32) ha hb
theorem stpN_inj {x y : Nat} (hx : x < 4294967296) (hy : y < 4294967296)
    (h : (x * 2654435769 + 40503) % 4294967296 ^^^ ((x * 2654435769 + 40503) % 4294967296) >>> 15 = (y * 2654435769 + 40503) % 4294967296 ^^^ ((y * 2654435769 + 40503) % 4294967296) >>> 15) : x = y := by
  have e1 := unshift (x := (x * 2654435769 + 40503) % 4294967296) (Nat.mod_lt _ (by decide))
  have e2 := unshift (x := (y * 2654435769 + 40503) % 4294967296) (Nat.mod_lt _ (by decide))
  rw [h, e2] at e1
  exact mul_inj hx hy e1.symm
theorem stpN_lt (c n : Nat) : stpN c n < 4294967296 := by
  unfold stpN
  refine xor_lt (Nat.mod_lt _ (by decide)) ?_
  exact Nat.lt_of_le_of_lt (by rw [Nat.shiftRight_eq_div_pow]; exact Nat.div_le_self _ _) (Nat.mod_lt _ (by decide))
theorem and_mask (x : Nat) : Builtin.bitAnd ((x : Int) * 2654435769 + 40503) 4294967295 = (((x * 2654435769 + 40503) % 4294967296 : Nat) : Int) := by
  have q := bitAnd_pp (x := (x : Int) * 2654435769 + 40503) (y := 4294967295) (by omega) (by decide)
  have e : ((x : Int) * 2654435769 + 40503).toNat = x * 2654435769 + 40503 := by omega
  have m := Nat.and_two_pow_sub_one_eq_mod (x * 2654435769 + 40503) 32
  rw [show (2 : Nat) ^ 32 - 1 = 4294967295 from rfl, show (2 : Nat) ^ 32 = 4294967296 from rfl] at m
  rw [q, e, show (4294967295 : Int).toNat = 4294967295 from rfl, m]
theorem shr15 (d : Nat) : (d : Int) / (2 : Int) ^ (15 : Int).toNat = ((d >>> 15 : Nat) : Int) := by
  rw [Nat.shiftRight_eq_div_pow, show (15 : Int).toNat = 15 from rfl]
  omega
theorem stp_nat {c n : Nat} : stp (c : Int) (n : Int) = ((stpN c n : Nat) : Int) := by
  have e0 : Builtin.bitXor (c : Int) (n : Int) = ((c ^^^ n : Nat) : Int) := Bits.bitXor_pp (Int.natCast_nonneg _) (Int.natCast_nonneg _)
  unfold stp
  rw [e0, and_mask, shr15, Bits.bitXor_pp (Int.natCast_nonneg _) (Int.natCast_nonneg _), Int.toNat_natCast, Int.toNat_natCast]
  rfl
theorem nat_of {n : Int} (h : W n) : ∃ m : Nat, n = (m : Int) ∧ m < 4294967296 := ⟨n.toNat, by have := h.1; omega, by have := h.1; have := h.2; omega⟩
theorem W.stp {c n : Int} (hc : W c) (hn : W n) : W (stp c n) := by
  obtain ⟨a, rfl, _⟩ := nat_of hc
  obtain ⟨b, rfl, _⟩ := nat_of hn
  rw [stp_nat]
  have := stpN_lt a b
  exact ⟨Int.natCast_nonneg _, by omega⟩
theorem stp_right {c n m : Int} (hc : W c) (hn : W n) (hm : W m) (h : My.stp c n = My.stp c m) : n = m := by
  obtain ⟨a, rfl, la⟩ := nat_of hc
  obtain ⟨b, rfl, lb⟩ := nat_of hn
  obtain ⟨d, rfl, ld⟩ := nat_of hm
  rw [stp_nat, stp_nat] at h
  have h2 : stpN a b = stpN a d := by omega
  have h3 : b = d := xor_inj (stpN_inj (xor_lt la lb) (xor_lt la ld) h2)
  rw [h3]
theorem stp_left {c d n : Int} (hc : W c) (hd : W d) (hn : W n) (h : My.stp c n = My.stp d n) : c = d := by
  obtain ⟨a, rfl, la⟩ := nat_of hc
  obtain ⟨b, rfl, lb⟩ := nat_of hd
  obtain ⟨e, rfl, le⟩ := nat_of hn
  rw [stp_nat, stp_nat] at h
  have h2 : stpN a e = stpN b e := by omega
  have h3 := stpN_inj (xor_lt la le) (xor_lt lb le) h2
  rw [Nat.xor_comm a e, Nat.xor_comm b e] at h3
  rw [xor_inj h3]
def Ws (ns : List Int) : Prop := ∀ n ∈ ns, W n
theorem W_fold : ∀ (ns : List Int) (c : Int), W c → Ws ns → W (ns.foldl My.stp c)
  | [], _, h, _ => h
  | n :: r, c, h, hs => W_fold r _ (h.stp (hs n List.mem_cons_self)) fun m hm => hs m (List.mem_cons_of_mem _ hm)
theorem fold_left : ∀ (ns : List Int) (c d : Int), W c → W d → Ws ns → ns.foldl My.stp c = ns.foldl My.stp d → c = d
  | [], _, _, _, _, _, h => h
  | n :: r, c, d, hc, hd, hs, h =>
    stp_left hc hd (hs n List.mem_cons_self) (fold_left r _ _ (hc.stp (hs n List.mem_cons_self)) (hd.stp (hs n List.mem_cons_self)) (fun m hm => hs m (List.mem_cons_of_mem _ hm)) h)
theorem W0 : W 2166136261 := ⟨by decide, by decide⟩
/-- just one number changed -/
theorem chk_one {xs ys : List Int} {n m : Int} (hx : Ws xs) (hy : Ws ys) (hn : W n) (hm : W m) : chk (xs ++ [m] ++ ys) = chk (xs ++ [n] ++ ys) ↔ m = n := by
  unfold chk
  simp only [List.foldl_append, List.foldl_cons, List.foldl_nil]
  refine ⟨fun h => ?_, fun h => by rw [h]⟩
  have h1 := W_fold xs _ W0 hx
  exact stp_right h1 hm hn (fold_left ys _ _ (h1.stp hm) (h1.stp hn) hy h)
structure Tx (mg : Str → Option Value) : Prop where
  b_bool : mg "bool" = none
  b_int : mg "int" = none
  b_isinstance : mg "isinstance" = none
  b_len : mg "len" = none
  b_list : mg "list" = none
  b_max : mg "max" = none
  b_min : mg "min" = none
  b_range : mg "range" = none
  b_tuple : mg "tuple" = none
  c_BEGIN : ∃ t, mg "BEGIN" = some (.int 2166136261 t)
  c_TIMES : ∃ t, mg "TIMES" = some (.int 2654435769 t)
  c_MORE : ∃ t, mg "MORE" = some (.int 40503 t)
  c_MOST : ∃ t, mg "MOST" = some (.int 4294967295 t)
  c_FAR : ∃ t, mg "FAR" = some (.int 15 t)

section
variable {P : Program} {w : World} {K : PySem.W.Frag} {mg : Str → Option Value} {base : Heap}
/-! ### is_whole, is_within, check_of -/
def spWhole : Sp := fun vs H Q _ => ∃ i : Int, vs = [.int i] ∧ Q (.bl true) H
theorem ok_whole {f : Addr} {fd : FuncData} (T : Tx mg) (F : Fun K "is_whole" "is_whole" sis_whole f fd) : FnOk P w K mg base CX0 1 f fd ["thing"] spWhole := by
  refine F.ok scis_whole (fun vs H Q E h => ?_) (fun cdv A outer s H vs Q E hr h => ?_)
  · obtain ⟨i, rfl, _⟩ := h
    rfl
  · obtain ⟨i, rfl, q⟩ := h
    refine ⟨_, (pss_one (ps_ret (pe_and (pe_callB call_isi (by rfl) T.b_isinstance PyProof.Rows.boot_isinstance (pa_cons (pv 0) (pa_cons (pe_bltn (v := .ty "int") (by rfl) T.b_int PyProof.Rows.boot_int rfl) pa_nil))) (pe_one (pe_not (pe_callB call_isi (by rfl) T.b_isinstance PyProof.Rows.boot_isinstance (pa_cons (pv 0) (pa_cons (pe_bltn (v := .ty "bool") (by rfl) T.b_bool PyProof.Rows.boot_bool rfl) pa_nil)))))))), ?_⟩
    refine ⟨_, rfl, _, _, _, _, true, rfl, .ty _, .base (.int _), kit_ty (by decide +kernel), true, rfl, iteT ?_⟩
    exact ⟨_, rfl, _, _, _, _, false, rfl, .ty _, .base (.int _), kit_ty (by decide +kernel), false, rfl, q⟩
def spWithin : Sp := fun vs H Q _ => ∃ i lo hi : Int, vs = [.int i, .int lo, .int hi] ∧ Q (.bl (decide (lo ≤ i ∧ i ≤ hi))) H
theorem ok_within {f : Addr} {fd : FuncData} (T : Tx mg) (G_is_whole : Ok P w K mg base CX0 "is_whole" 1 ["thing"] spWhole) (F : Fun K "is_within" "is_within" sis_within f fd) : FnOk P w K mg base CX0 2 f fd ["thing", "low", "high"] spWithin := by
  refine F.ok scis_within (fun vs H Q E h => ?_) (fun cdv A outer s H vs Q E hr h => ?_)
  · obtain ⟨i, lo, hi, rfl, _⟩ := h
    rfl
  · obtain ⟨i, lo, hi, rfl, q⟩ := h
    refine ⟨_, (pss_one (ps_ret (pe_and (pe_callO G_is_whole (hr.mono (by decide)) (by rfl) pass0 (pa_cons (pv 0) pa_nil)) (pe_one (pe_chain op_le op_le (pv 1) (pv 0) (pv 2)))))), ?_⟩
    refine ⟨_, rfl, i, rfl, true, rfl, iteT ?_⟩
    refine ⟨_, rfl, _, rfl, lo, i, rfl, rfl, _, rfl, ite2 (fun e => ?_) (fun e => ?_)⟩
    · refine ⟨_, rfl, i, hi, rfl, rfl, ?_⟩
      have e2 : lo ≤ i := of_decide_eq_true e
      have e3 : decide (lo ≤ i ∧ i ≤ hi) = decide (i ≤ hi) := by
        rw [decide_eq_decide]
        exact ⟨fun z => z.2, fun z => ⟨e2, z⟩⟩
      rw [e3] at q
      exact q
    · have e2 : decide (lo ≤ i ∧ i ≤ hi) = false := decide_eq_false fun z => e (decide_eq_true z.1)
      rw [e2] at q
      exact q
def spCheck : Sp := fun vs H Q _ => ∃ (a : Addr) (ns : List Int), vs = [.ref a] ∧ H a = some (.lst (ns.map V.int)) ∧ Ws ns ∧ ∀ H', Same H H' → Q (.int (chk ns)) H'
theorem ok_check {f : Addr} {fd : FuncData} (T : Tx mg) (G_is_within : Ok P w K mg base CX0 "is_within" 2 ["thing", "low", "high"] spWithin) (F : Fun K "check_of" "check_of" scheck_of f fd) : FnOk P w K mg base CX0 3 f fd ["numbers"] spCheck := by
  obtain ⟨t1, c_BEGIN⟩ := T.c_BEGIN
  obtain ⟨t2, c_TIMES⟩ := T.c_TIMES
  obtain ⟨t3, c_MORE⟩ := T.c_MORE
  obtain ⟨t4, c_MOST⟩ := T.c_MOST
  obtain ⟨t5, c_FAR⟩ := T.c_FAR
  refine F.ok sccheck_of (fun vs H Q E h => ?_) (fun cdv A outer s H vs Q E hr h => ?_)
  · obtain ⟨a, ns, rfl, _⟩ := h
    rfl
  · obtain ⟨a, ns, rfl, ha, hw, q⟩ := h
    refine ⟨_, (pss_cons (ps_if (pt_not (pt_val (pe_callB call_isiT (by rfl) T.b_isinstance PyProof.Rows.boot_isinstance (pa_cons (pv 0) (pa_cons (pe_tup (pa_cons (pe_bltn (v := .ty "list") (by rfl) T.b_list PyProof.Rows.boot_list rfl) (pa_cons (pe_bltn (v := .ty "tuple") (by rfl) T.b_tuple PyProof.Rows.boot_tuple rfl) pa_nil))) pa_nil))))) (pss_one ps_never) pss_nil)
      (pss_cons (ps_set (i := 1) sccheck_of.nd rfl (.inl rfl) (pe_glob (v := .int 2166136261) (by rfl) c_BEGIN ⟨_, rfl⟩))
      (pss_cons (ps_for PassesOwn.never rfl (pi_list (pv 0)) (pg_name (i := 2) sccheck_of.nd rfl (.inl rfl)) (pss_cons (ps_if (pt_not (pt_val (pe_callO G_is_within (hr.mono (by decide)) (by rfl) pass0 (pa_cons (pv 2) (pa_cons pe_int (pa_cons (pe_glob (v := .int 4294967295) (by rfl) c_MOST ⟨_, rfl⟩) pa_nil)))))) (pss_one ps_never) pss_nil)
      (pss_cons (ps_set (i := 1) sccheck_of.nd rfl (.inl rfl) (pe_op op_and (pe_op op_add (pe_op op_mul (pe_op op_xor (pv 1) (pv 2)) (pe_glob (v := .int 2654435769) (by rfl) c_TIMES ⟨_, rfl⟩)) (pe_glob (v := .int 40503) (by rfl) c_MORE ⟨_, rfl⟩)) (pe_glob (v := .int 4294967295) (by rfl) c_MOST ⟨_, rfl⟩)))
      (pss_one (ps_set (i := 1) sccheck_of.nd rfl (.inl rfl) (pe_op op_xor (pv 1) (pe_op op_shr (pv 1) (pe_glob (v := .int 15) (by rfl) c_FAR ⟨_, rfl⟩))))))))
      (pss_one (ps_ret (pv 1)))))), ?_⟩
    refine ⟨_, rfl, by decide, fun p hp => ?_⟩
    have s1 : Same H (upd H p (.tup [.ty "list", .ty "tuple"])) := same_upd hp
    have h1 := s1 _ _ ha
    refine ⟨.ref a, p, _, _, [.type "list", .type "tuple"], true, rfl, upd_same, .cons (.ty _) (.cons (.ty _) .nil), .base (.lst h1), kitAny_cons (b := true) (kit_ty (by decide +kernel)) (fun z => by cases z) (fun _ => rfl), true, rfl, ?_⟩
    refine iteF ?_
    refine ⟨_, rfl, a, rfl, ⟨_, SqL.of h1⟩, for_list (K := K) (a := a) (xs := ns.map V.int) (fun i σ H' => ∃ v : Option V, σ = [some (.ref a), some (.int (chk (ns.take i))), v] ∧ H' = upd H p (.tup [.ty "list", .ty "tuple"])) ⟨none, rfl, rfl⟩ (fun i σ H' _ hW => ?_) (fun i x σ H' hi hW => ?_) (fun σ H' hW => ?_)⟩
    · obtain ⟨v, rfl, rfl⟩ := hW
      exact SqL.of h1
    · obtain ⟨v, rfl, rfl⟩ := hW
      rw [List.getElem?_map] at hi
      obtain ⟨n, hn, rfl⟩ : ∃ n, ns[i]? = some n ∧ x = V.int n := by
        cases e : ns[i]? with
        | none => rw [e] at hi; cases hi
        | some n => rw [e] at hi; exact ⟨n, rfl, (Option.some.inj hi).symm⟩
      have hnW : W n := hw n (List.mem_of_getElem? hn)
      have et : ns.take (i + 1) = ns.take i ++ [n] := by
        rw [List.take_add_one, hn]
        rfl
      refine ⟨_, rfl, n, 0, 4294967295, rfl, _, rfl, ?_⟩
      have e1 : decide ((0 : Int) ≤ n ∧ n ≤ 4294967295) = true := decide_eq_true ⟨hnW.1, by have := hnW.2; omega⟩
      rw [e1]
      refine iteF ?_
      refine ⟨_, rfl, _, rfl, _, _, rfl, rfl, _, _, rfl, rfl, .inr ⟨by decide, by decide⟩, _, _, rfl, rfl, _, _, rfl, rfl, ?_⟩
      refine ⟨_, rfl, _, rfl, _, _, rfl, rfl, (by show (0 : Int) ≤ 15; decide), _, _, rfl, rfl, ?_⟩
      refine ⟨some (.int n), ?_, rfl⟩
      rw [et]
      unfold chk
      rw [List.foldl_append]
      rfl
    · obtain ⟨v, rfl, rfl⟩ := hW
      rw [List.length_map, List.take_length]
      exact ⟨_, rfl, q _ s1⟩
/-! ### the law's helpers -/
def spCell (K : PySem.W.Frag) : Sp := fun vs H Q _ => ∃ (a : Addr) (ns : List Int) (k : Nat), vs = [.ref a, .int k] ∧ SqL K H a (ns.map V.int) ∧ ∀ c : Int, Q (.int c) H
theorem ok_cell {f : Addr} {fd : FuncData} (T : Tx mg) (F : Fun K "_law_cell_at" "_law_cell_at" s_law_cell_at f fd) : FnOk P w K mg base CX0 1 f fd ["_law_script", "_law_k"] (spCell K) := by
  refine F.ok sc_law_cell_at (fun vs H Q E h => ?_) (fun cdv A outer s H vs Q E hr h => ?_)
  · obtain ⟨a, ns, k, rfl, _⟩ := h
    rfl
  · obtain ⟨a, ns, k, rfl, ha, q⟩ := h
    refine ⟨_, (pss_cons (ps_if (pt_cmpR op_lt (pv 1) (pe_callB call_len_seq (by rfl) T.b_len PySem.boot_len (pa_cons (pv 0) pa_nil)) (nomark _)) (pss_one (ps_ret (pe_ix ix_list (pv 0) (pv 1) (fun _ _ => rfl)))) pss_nil)
      (pss_one (ps_ret (pe_op op_add (pe_op op_mul pe_int (pv 1)) pe_int)))), ?_⟩
    refine ⟨_, rfl, _, rfl, a, _, rfl, .inl ha, _, _, rfl, rfl, _, rfl, ite2 (fun e => ?_) (fun e => ?_)⟩
    · have e2 : (k : Int) < ((ns.map V.int).length : Int) := of_decide_eq_true e
      rw [List.length_map] at e2
      have e3 : k < ns.length := by omega
      refine ⟨_, rfl, _, rfl, a, _, k, .int ns[k], rfl, rfl, ha, atI_nat (j := k) ?_, q _⟩
      rw [List.getElem?_map, List.getElem?_eq_getElem e3]
      rfl
    · exact ⟨_, rfl, _, _, rfl, rfl, .inl ⟨by decide, by decide⟩, _, _, rfl, rfl, q _⟩
def spBox : Sp := fun vs H Q _ => ∃ c : Int, vs = [.int c] ∧ ∀ b H', H b = none → Box H' b → Same H H' → Q (.ref b) H'
theorem ok_box {f : Addr} {fd : FuncData} (T : Tx mg) (F : Fun K "_law_box" "_law_box" s_law_box f fd) : FnOk P w K mg base CX0 1 f fd ["_law_cell"] spBox := by
  refine F.ok sc_law_box (fun vs H Q E h => ?_) (fun cdv A outer s H vs Q E hr h => ?_)
  · obtain ⟨c, rfl, _⟩ := h
    rfl
  · obtain ⟨c, rfl, q⟩ := h
    refine ⟨_, (pss_one (ps_ret (pe_lst (pa_cons (pe_op op_mul (pe_callB (call_max2 rfl) (by rfl) T.b_max PyProof.Rows.boot_max (pa_cons pe_int (pa_cons (pv 0) pa_nil))) (pe_callTy call_int1 (by rfl) T.b_int PyProof.Rows.boot_int (pa_cons (pe_cmpR op_ge (pv 0) (pe_op op_pow pe_int pe_int) (nomark _)) pa_nil))) (pa_cons (pe_op op_mod (pv 0) pe_int) (pa_cons pe_int pa_nil)))))), ?_⟩
    refine ⟨_, rfl, _, _, rfl, _, rfl, _, _, rfl, rfl, ⟨by decide, by decide, by decide⟩, _, _, rfl, rfl, .inr ⟨_, rfl, _, _, rfl, rfl, .inr ?_, ?_⟩⟩
    · split <;> exact ⟨by decide, by decide⟩
    · refine ⟨_, rfl, _, _, rfl, rfl, (by show (0 : Int) < 2147483563; decide), (by show 3 ≤ sizeLine; decide), fun p hp => ?_⟩
      exact q p _ hp ⟨_, _, _, upd_same⟩ (same_upd hp)
def spTake : Sp := fun vs H Q _ => ∃ (b : Addr) (m : Int), vs = [.ref b, .int m] ∧ Box H b ∧ 0 < m ∧ m ≤ 4294967296 ∧ ∀ r H', 0 ≤ r → r < m → Keep b H H' → Q (.int r) H'
theorem ok_take {f : Addr} {fd : FuncData} (T : Tx mg) (F : Fun K "_law_take" "_law_take" s_law_take f fd) : FnOk P w K mg base CX0 1 f fd ["_law_box_here", "_law_many"] spTake := by
  refine F.ok sc_law_take (fun vs H Q E h => ?_) (fun cdv A outer s H vs Q E hr h => ?_)
  · obtain ⟨b, m, rfl, _⟩ := h
    rfl
  · obtain ⟨b, m, rfl, ⟨d, x, c, hb⟩, h0, h1, q⟩ := h
    have hdW : CDivW d m := wide_div (b := 33) h0 (by have : m.natAbs ≤ 4294967296 := by omega
                                                      exact Nat.lt_of_le_of_lt this (by decide)) (by decide) (by decide)
    refine ⟨_, (pss_cons (ps_if (pt_cmpR op_gt (pe_ix ix_list (pv 0) pe_int (fun _ _ => rfl)) pe_int (nomark _)) (pss_cons (ps_set (i := 3) sc_law_take.nd rfl (.inl rfl) (pe_op op_mod (pe_ix ix_list (pv 0) pe_int (fun _ _ => rfl)) (pv 1)))
      (pss_cons (ps_asg (pe_op op_fdivW (pe_ix ix_list (pv 0) pe_int (fun _ _ => rfl)) (pv 1)) (pg_sub (pv 0) pe_int set_list))
      (pss_one (ps_ret (pv 3))))) pss_nil)
      (pss_cons (ps_asg (pe_op op_add (pe_ix ix_list (pv 0) pe_int (fun _ _ => rfl)) pe_int) (pg_sub (pv 0) pe_int set_list))
      (pss_cons (ps_set (i := 2) sc_law_take.nd rfl (.inl rfl) (pe_op op_mod (pe_op op_add (pe_op op_add (pe_op op_mul (pe_ix ix_list (pv 0) pe_int (fun _ _ => rfl)) pe_int) (pe_op op_mul pe_int (pe_ix ix_list (pv 0) pe_int (fun _ _ => rfl)))) pe_int) pe_int))
      (pss_cons (ps_set (i := 2) sc_law_take.nd rfl (.inl rfl) (pe_op op_mod (pe_op op_mul (pe_op op_add (pv 2) (pe_op op_mul pe_int (pe_ix ix_list (pv 0) pe_int (fun _ _ => rfl)))) (pv 2)) pe_int))
      (pss_one (ps_ret (pe_op op_mod (pe_op op_fdivW (pe_op op_mod (pe_op op_mul (pe_op op_mod (pe_op op_add (pe_op op_mul (pv 2) pe_int) pe_int) pe_int) (pe_op op_add (pv 2) pe_int)) pe_int) pe_int) (pv 1)))))))), ?_⟩
    refine ⟨_, rfl, b, _, 0, .int d, rfl, rfl, SqL.of hb, atI_nat (j := 0) rfl, _, _, rfl, rfl, _, rfl, ite2 (fun e => ?_) (fun e => ?_)⟩
    · refine ⟨_, rfl, b, _, 0, .int d, rfl, rfl, SqL.of hb, atI_nat (j := 0) rfl, _, rfl, _, _, rfl, rfl, h0, ?_⟩
      refine ⟨_, rfl, b, _, 0, .int d, rfl, rfl, SqL.of hb, atI_nat (j := 0) rfl, _, rfl, _, _, rfl, rfl, hdW, ?_⟩
      refine ⟨_, rfl, b, _, 0, 0, rfl, rfl, hb, rfl, _, rfl, ?_⟩
      refine q _ _ (Int.emod_nonneg _ (by omega)) (Int.emod_lt_of_pos _ h0) ⟨⟨_, _, _, upd_same⟩, fun a o na e => ?_⟩
      rw [upd_ne na]
      exact e
    · refine ⟨_, rfl, b, _, 2, .int c, rfl, rfl, SqL.of hb, atI_nat (j := 2) rfl, _, _, rfl, rfl, ?_⟩
      refine ⟨_, rfl, b, _, 2, 2, rfl, rfl, hb, rfl, ?_⟩
      have hb2 : (upd H b (.lst [.int d, .int x, .int (c + 1)])) b = some (.lst [.int d, .int x, .int (c + 1)]) := upd_same
      refine ⟨_, rfl, b, _, 1, .int x, rfl, rfl, SqL.of hb2, atI_nat (j := 1) rfl, _, _, rfl, rfl, .inr ⟨by decide, by decide⟩, ?_⟩
      refine ⟨_, rfl, b, _, 2, .int (c + 1), rfl, rfl, SqL.of hb2, atI_nat (j := 2) rfl, _, _, rfl, rfl, .inl ⟨by decide, by decide⟩, _, _, rfl, rfl, _, _, rfl, rfl, _, _, rfl, rfl, (by show (0 : Int) < 2147483647; decide), ?_⟩
      generalize hu : (x * 40692 + 10007 * (c + 1) + 13) % 2147483647 = u
      have u0 : 0 ≤ u ∧ u < 2147483647 := by omega
      refine ⟨_, rfl, _, rfl, b, _, 2, .int (c + 1), rfl, rfl, SqL.of hb2, atI_nat (j := 2) rfl, _, _, rfl, rfl, .inl ⟨by decide, by decide⟩, _, _, rfl, rfl, _, rfl, _, _, rfl, rfl, .inr ⟨by omega, by omega⟩, _, _, rfl, rfl, (by show (0 : Int) < 2147483629; decide), ?_⟩
      generalize hv : (u + 11 * (c + 1)) * u % 2147483629 = v
      have v0 : 0 ≤ v ∧ v < 2147483629 := by
        rw [← hv]
        exact ⟨Int.emod_nonneg _ (by decide), Int.emod_lt_of_pos _ (by decide)⟩
      refine ⟨_, rfl, _, _, rfl, rfl, .inr ⟨by decide, by decide⟩, _, _, rfl, rfl, _, _, rfl, rfl, (by show (0 : Int) < 2147483587; decide), _, rfl, _, _, rfl, rfl, _, _, rfl, rfl, .inr ⟨by omega, by omega⟩, _, _, rfl, rfl, (by show (0 : Int) < 2147483579; decide), _, _, rfl, rfl, wide_div (b := 4) (by decide) (by decide) (by decide) (by decide), _, rfl, _, _, rfl, rfl, h0, ?_⟩
      refine q _ _ (Int.emod_nonneg _ (by omega)) (Int.emod_lt_of_pos _ h0) ⟨⟨_, _, _, upd_same⟩, fun a o na e => ?_⟩
      rw [upd_ne na]
      exact e
def spCrossed : Sp := fun vs H Q _ => ∃ i j : Int, vs = [.int i, .int j] ∧ Q (.int (Builtin.bitXor i j)) H
theorem ok_crossed {f : Addr} {fd : FuncData} (T : Tx mg) (F : Fun K "_law_crossed" "_law_crossed" s_law_crossed f fd) : FnOk P w K mg base CX0 1 f fd ["_law_one", "_law_other"] spCrossed := by
  refine F.ok sc_law_crossed (fun vs H Q E h => ?_) (fun cdv A outer s H vs Q E hr h => ?_)
  · obtain ⟨i, j, rfl, _⟩ := h
    rfl
  · obtain ⟨i, j, rfl, q⟩ := h
    refine ⟨_, (pss_one (ps_ret (pe_op op_sub (pe_op op_add (pv 0) (pv 1)) (pe_op op_mul pe_int (pe_op op_and (pv 0) (pv 1)))))), ?_⟩
    refine ⟨_, rfl, _, rfl, _, _, rfl, rfl, _, rfl, _, rfl, _, _, rfl, rfl, _, _, rfl, rfl, .inl ⟨by decide, by decide⟩, _, _, rfl, rfl, ?_⟩
    rw [bitXor_and] at q
    exact q
def spWord : Sp := fun vs H Q _ => ∃ b : Addr, vs = [.ref b] ∧ Box H b ∧ ∀ r H', W r → Keep b H H' → Q (.int r) H'
theorem pick {xs : List Int} {r : Int} (h0 : 0 ≤ r) (h1 : r < xs.length) : ∃ v, v ∈ xs ∧ atI (xs.map V.int) r = some (.int v) := by
  obtain ⟨n, rfl⟩ := Int.eq_ofNat_of_zero_le h0
  have hl : n < xs.length := by omega
  refine ⟨xs[n], List.getElem_mem hl, atI_nat (j := n) ?_⟩
  rw [List.getElem?_map, List.getElem?_eq_getElem hl]
  rfl
theorem W.shl {r : Int} (h0 : 0 ≤ r) (h1 : r < 32) : W (1 * 2 ^ r.toNat) := by
  obtain ⟨n, rfl⟩ := Int.eq_ofNat_of_zero_le h0
  have h : n < 32 := by omega
  rw [show ((n : Int)).toNat = n from rfl, Int.one_mul]
  have e : (2 : Int) ^ n = ((2 ^ n : Nat) : Int) := by
    rw [Int.natCast_pow]
    rfl
  rw [e]
  have l : 2 ^ n < 2 ^ 32 := Nat.pow_lt_pow_right (by decide) h
  exact ⟨Int.natCast_nonneg _, by rw [show (2 : Nat) ^ 32 = 4294967296 from rfl] at l; omega⟩
theorem ok_word {f : Addr} {fd : FuncData} (T : Tx mg) (G__law_take : Ok P w K mg base CX0 "_law_take" 1 ["_law_box_here", "_law_many"] spTake) (F : Fun K "_law_word" "_law_word" s_law_word f fd) : FnOk P w K mg base CX0 2 f fd ["_law_box_here"] spWord := by
  refine F.ok sc_law_word (fun vs H Q E h => ?_) (fun cdv A outer s H vs Q E hr h => ?_)
  · obtain ⟨b, rfl, _⟩ := h
    rfl
  · obtain ⟨b, rfl, hb, q⟩ := h
    refine ⟨_, (pss_cons (ps_set (i := 1) sc_law_word.nd rfl (.inl rfl) (pe_lst (pa_cons pe_int (pa_cons pe_int (pa_cons pe_int (pa_cons pe_int (pa_cons (pe_op op_shl pe_int (pe_callO G__law_take (hr.mono (by decide)) (by rfl) pass0 (pa_cons (pv 0) (pa_cons pe_int pa_nil)))) (pa_cons (pe_callO G__law_take (hr.mono (by decide)) (by rfl) pass0 (pa_cons (pv 0) (pa_cons pe_int pa_nil))) (pa_cons (pe_callO G__law_take (hr.mono (by decide)) (by rfl) pass0 (pa_cons (pv 0) (pa_cons pe_int pa_nil))) pa_nil)))))))))
      (pss_one (ps_ret (pe_ix ix_list (pv 1) (pe_callO G__law_take (hr.mono (by decide)) (by rfl) pass0 (pa_cons (pv 0) (pa_cons pe_int pa_nil))) (fun _ _ => rfl))))), ?_⟩
    refine ⟨_, rfl, b, 32, rfl, hb, by decide, by decide, fun r1 H1 r10 r11 k1 => ?_⟩
    refine ⟨_, _, rfl, rfl, ⟨r10, by omega, by decide⟩, ?_⟩
    refine ⟨_, rfl, b, 4294967296, rfl, k1.box, by decide, by decide, fun r2 H2 r20 r21 k2 => ?_⟩
    refine ⟨_, rfl, b, 400, rfl, k2.box, by decide, by decide, fun r3 H3 r30 r31 k3 => ?_⟩
    refine ⟨(by show 7 ≤ sizeLine; decide), fun p hp => ?_⟩
    have kp := ((k1.trans k2).trans k3).new (o := .lst [.int 0, .int 1, .int 2, .int 4294967295, .int (1 * 2 ^ r1.toNat), .int r2, .int r3]) hp
    obtain ⟨ob, eb⟩ := k3.box.some
    have np : p ≠ b := (ne_of_none eb hp).symm
    refine ⟨_, rfl, _, rfl, b, 7, rfl, kp.box, by decide, by decide, fun r4 H4 r40 r41 k4 => ?_⟩
    obtain ⟨v, hv, ev⟩ := pick (xs := [0, 1, 2, 4294967295, 1 * 2 ^ r1.toNat, r2, r3]) r40 (by show r4 < 7; exact r41)
    refine ⟨p, _, r4, .int v, rfl, rfl, SqL.of (k4.old p _ np upd_same), ev, q v H4 ?_ (kp.trans k4)⟩
    simp only [List.mem_cons, List.not_mem_nil, or_false] at hv
    rcases hv with rfl | rfl | rfl | rfl | rfl | rfl | rfl
    · exact ⟨by decide, by decide⟩
    · exact ⟨by decide, by decide⟩
    · exact ⟨by decide, by decide⟩
    · exact ⟨by decide, by decide⟩
    · exact W.shl r10 r11
    · exact ⟨r20, r21⟩
    · exact ⟨r30, by omega⟩
theorem W.xor {a b : Int} (ha : W a) (hb : W b) : W (Builtin.bitXor a b) := by
  obtain ⟨n, rfl, ln⟩ := nat_of ha
  obtain ⟨m, rfl, lm⟩ := nat_of hb
  rw [Bits.bitXor_pp (Int.natCast_nonneg _) (Int.natCast_nonneg _)]
  have := xor_lt ln lm
  exact ⟨Int.natCast_nonneg _, by rw [Int.toNat_natCast, Int.toNat_natCast]; omega⟩
def spOther : Sp := fun vs H Q _ => ∃ (b : Addr) (n : Int), vs = [.ref b, .int n] ∧ Box H b ∧ W n ∧ ∀ r H', W r → Keep b H H' → Q (.int r) H'
theorem ok_other {f : Addr} {fd : FuncData} (T : Tx mg) (G__law_take : Ok P w K mg base CX0 "_law_take" 1 ["_law_box_here", "_law_many"] spTake) (G__law_crossed : Ok P w K mg base CX0 "_law_crossed" 1 ["_law_one", "_law_other"] spCrossed)
    (F : Fun K "_law_other_word" "_law_other_word" s_law_other_word f fd) : FnOk P w K mg base CX0 2 f fd ["_law_box_here", "_law_word_here"] spOther := by
  refine F.ok sc_law_other_word (fun vs H Q E h => ?_) (fun cdv A outer s H vs Q E hr h => ?_)
  · obtain ⟨b, n, rfl, _⟩ := h
    rfl
  · obtain ⟨b, n, rfl, hb, hn, q⟩ := h
    refine ⟨_, (pss_cons (ps_set (i := 2) sc_law_other_word.nd rfl (.inl rfl) (pe_lst (pa_cons (pe_op op_mod (pe_op op_add (pv 1) pe_int) pe_int) (pa_cons (pe_callO G__law_crossed (hr.mono (by decide)) (by rfl) pass0 (pa_cons (pv 1) (pa_cons (pe_op op_shl pe_int (pe_callO G__law_take (hr.mono (by decide)) (by rfl) pass0 (pa_cons (pv 0) (pa_cons pe_int pa_nil)))) pa_nil))) (pa_cons (pe_op op_sub pe_int (pv 1)) pa_nil)))))
      (pss_one (ps_ret (pe_ix ix_list (pv 2) (pe_callO G__law_take (hr.mono (by decide)) (by rfl) pass0 (pa_cons (pv 0) (pa_cons pe_int pa_nil))) (fun _ _ => rfl))))), ?_⟩
    refine ⟨_, rfl, _, _, rfl, rfl, _, _, rfl, rfl, (by show (0 : Int) < 4294967296; decide), ?_⟩
    refine ⟨_, rfl, _, rfl, b, 32, rfl, hb, by decide, by decide, fun r1 H1 r10 r11 k1 => ?_⟩
    refine ⟨_, _, rfl, rfl, ⟨r10, by omega, by decide⟩, _, _, rfl, ?_⟩
    refine ⟨_, rfl, _, _, rfl, rfl, (by show 3 ≤ sizeLine; decide), fun p hp => ?_⟩
    have kp := k1.new (o := .lst [.int ((n + 1) % 4294967296), .int (Builtin.bitXor n (1 * 2 ^ r1.toNat)), .int (4294967295 - n)]) hp
    obtain ⟨ob, eb⟩ := k1.box.some
    have np : p ≠ b := (ne_of_none eb hp).symm
    refine ⟨_, rfl, _, rfl, b, 3, rfl, kp.box, by decide, by decide, fun r4 H4 r40 r41 k4 => ?_⟩
    obtain ⟨v, hv, ev⟩ := pick (xs := [(n + 1) % 4294967296, Builtin.bitXor n (1 * 2 ^ r1.toNat), 4294967295 - n]) r40 (by show r4 < 3; exact r41)
    refine ⟨p, _, r4, .int v, rfl, rfl, SqL.of (k4.old p _ np upd_same), ev, q v H4 ?_ (kp.trans k4)⟩
    simp only [List.mem_cons, List.not_mem_nil, or_false] at hv
    have hn0 := hn.1
    have hn1 := hn.2
    rcases hv with rfl | rfl | rfl
    · exact ⟨by omega, by omega⟩
    · exact hn.xor (W.shl r10 r11)
    · exact ⟨by omega, by omega⟩
/-! ### the law -/
theorem cut_to {xs : List V} {i : Nat} (h : i ≤ xs.length) : cutV xs none (some (i : Int)) = xs.take i := by
  unfold cutV
  rw [HT.sIx_nat, HT.sIx_none, Nat.min_eq_left h, Nat.sub_zero, List.drop_zero]
theorem cut_from {xs : List V} {i : Nat} (h : i ≤ xs.length) : cutV xs (some (i : Int)) none = xs.drop i := by
  unfold cutV
  rw [HT.sIx_nat, HT.sIx_none, Nat.min_eq_left h]
  exact List.take_of_length_le (by rw [List.length_drop]; omega)
theorem cut_from1 {xs : List V} {i : Nat} (h : i + 1 ≤ xs.length) : cutV xs (some ((i : Int) + 1)) none = xs.drop (i + 1) := cut_from (i := i + 1) h
theorem len_small {n : Nat} (h : n ≤ 1000) : n ≤ sizeLine := Nat.le_of_lt (small1000 h)
/-- a list that stands whatever becomes of the objects at bs -/
def SqB (K : PySem.W.Frag) (H : Hp) (bs : List Addr) (a : Addr) (xs : List V) : Prop := SqL K H a xs ∧ (a ∈ bs → ∀ H', SqL K H' a xs)
theorem SqB.nil {a : Addr} {xs : List V} {H : Hp} (h : SqL K H a xs) : SqB K H [] a xs := ⟨h, fun e => by cases e⟩
theorem SqB.add {a b : Addr} {bs : List Addr} {xs : List V} {H : Hp} (h : SqB K H bs a xs) (n : H b = none) : SqB K H (b :: bs) a xs := ⟨h.1, fun e H' => by
  rcases List.mem_cons.mp e with e | e
  · subst e
    rcases h.1 with (h | ⟨o, h⟩) | h
    · rw [n] at h; cases h
    · rw [n] at h; cases h
    · exact .inr h
  · exact h.2 e H'⟩
theorem SqB.drop {a b : Addr} {bs : List Addr} {xs : List V} {H : Hp} (h : SqB K H (b :: bs) a xs) : SqB K H bs a xs := ⟨h.1, fun e => h.2 (List.mem_cons_of_mem _ e)⟩
theorem SqB.step {a : Addr} {bs : List Addr} {xs : List V} {H H' : Hp} (h : SqB K H bs a xs) (k : ∀ o, a ∉ bs → H a = some o → H' a = some o) : SqB K H' bs a xs := ⟨by
  by_cases e : a ∈ bs
  · exact h.2 e H'
  · rcases h.1 with (z | ⟨o, z⟩) | z
    · exact .inl (.inl (k _ e z))
    · exact .inl (.inr ⟨o, k _ e z⟩)
    · exact .inr z, h.2⟩
theorem SqB.keep {a b : Addr} {bs : List Addr} {xs : List V} {H H' : Hp} (h : SqB K H bs a xs) (hb : b ∈ bs) (k : Keep b H H') : SqB K H' bs a xs := h.step fun o n e => k.old a o (fun z => n (z ▸ hb)) e
theorem SqB.same {a : Addr} {bs : List Addr} {xs : List V} {H H' : Hp} (h : SqB K H bs a xs) (k : Same H H') : SqB K H' bs a xs := h.step fun o _ e => k a o e
theorem SqB.wr {a b : Addr} {bs : List Addr} {xs : List V} {H : Hp} {o : HO} (h : SqB K H bs a xs) (hb : b ∈ bs) : SqB K (upd H b o) bs a xs := h.step fun o n e => by
  have na : a ≠ b := fun z => n (by rw [z]; exact hb)
  rw [upd_ne na]
  exact e
/-- what stands between the turns: the script at a, the box at b, the numbers at l -/
structure Now (K : PySem.W.Frag) (a b l : Addr) (ns xs : List Int) (H : Hp) : Prop where
  scr : SqB K H [b] a (ns.map V.int)
  box : Box H b
  lst : H l = some (.lst (xs.map V.int))
  nlb : l ≠ b
theorem Now.keep {a b l : Addr} {ns xs : List Int} {H H' : Hp} (n : Now K a b l ns xs H) (k : Keep b H H') : Now K a b l ns xs H' := ⟨n.scr.keep List.mem_cons_self k, k.box, k.old _ _ n.nlb n.lst, n.nlb⟩
theorem Now.same {a b l : Addr} {ns xs : List Int} {H H' : Hp} (n : Now K a b l ns xs H) (k : Same H H') : Now K a b l ns xs H' := n.keep (Same.keep n.box k)
theorem Now.new {a b l p : Addr} {o : HO} {ns xs : List Int} {H : Hp} (n : Now K a b l ns xs H) (h : H p = none) : Now K a b l ns xs (upd H p o) := n.same (same_upd h)
def spLaw (K : PySem.W.Frag) : Sp := fun vs H Q _ => ∃ (a : Addr) (ns : List Int), vs = [.ref a] ∧ SqL K H a (ns.map V.int) ∧ ns.length ≤ 63 ∧ ∀ H', Q (.bl true) H'
theorem ok_law {f : Addr} {fd : FuncData} (T : Tx mg) (G_check_of : Ok P w K mg base CX0 "check_of" 3 ["numbers"] spCheck) (G__law_cell_at : Ok P w K mg base CX0 "_law_cell_at" 1 ["_law_script", "_law_k"] (spCell K)) (G__law_box : Ok P w K mg base CX0 "_law_box" 1 ["_law_cell"] spBox)
    (G__law_take : Ok P w K mg base CX0 "_law_take" 1 ["_law_box_here", "_law_many"] spTake) (G__law_word : Ok P w K mg base CX0 "_law_word" 2 ["_law_box_here"] spWord) (G__law_other_word : Ok P w K mg base CX0 "_law_other_word" 2 ["_law_box_here", "_law_word_here"] spOther)
    (F : Fun K "law" "law" slaw f fd) : FnOk P w K mg base CX0 4 f fd ["_law_script"] (spLaw K) := by
  refine F.ok sclaw (fun vs H Q E h => ?_) (fun cdv A outer s H vs Q E hr h => ?_)
  · obtain ⟨a, ns, rfl, _⟩ := h
    rfl
  · obtain ⟨a, ns, rfl, ha, hlen, q⟩ := h
    refine ⟨_, (pss_cons (ps_for PassesOwn.never rfl (pi_range1 (by rfl) T.b_range (pa_cons (pe_callB (call_max2 rfl) (by rfl) T.b_max PyProof.Rows.boot_max (pa_cons pe_int (pa_cons (pe_callB (call_min2 rfl) (by rfl) T.b_min PyProof.Rows.boot_min (pa_cons pe_int (pa_cons (pe_callB call_len_seq (by rfl) T.b_len PySem.boot_len (pa_cons (pv 0) pa_nil)) pa_nil))) pa_nil))) pa_nil)) (pg_name (i := 1) sclaw.nd rfl (.inl rfl)) (pss_cons (ps_set (i := 2) sclaw.nd rfl (.inr rfl) (pe_callO G__law_box (hr.mono (by decide)) (by rfl) pass0 (pa_cons (pe_callO G__law_cell_at (hr.mono (by decide)) (by rfl) pass0 (pa_cons (pv 0) (pa_cons (pv 1) pa_nil))) pa_nil)))
      (pss_cons (ps_setLc (i := 3) (own := [("_law_j", 9)]) (g := gName 9) (tt := tYes) rfl sclaw.nd rfl rfl (sw_true rfl rfl rfl (by decide +kernel)) (pi_range1 (by rfl) T.b_range (pa_cons (pe_op op_add pe_int (pe_callO G__law_take (hr.mono (by decide)) (by rfl) pass0 (pa_cons (pv 2) (pa_cons pe_int pa_nil)))) pa_nil)) (blkOk_by (own := [("_law_j", 9)]) (N := ["_law_script", "_law_k", "_law_box_here", "_law_numbers", "_law_turn", "_law_check_here", "_law_at", "_law_other", "_law_changed", "_law_j"]) (sc := defScope slaw) (by decide +kernel)) (fun _ _ _ _ _ => pg_name (i := 9) sclaw.nd rfl (Or.inl rfl)) (fun _ _ _ _ _ => pts_nil) (fun _ _ _ _ _ => (pe_callO G__law_word (hr.mono (by decide)) (by rfl) pass0 (pa_cons (pv 2) pa_nil))))
      (pss_one (ps_for PassesOwn.never rfl (pi_range1 (by rfl) T.b_range (pa_cons pe_int pa_nil)) (pg_name (i := 4) sclaw.nd rfl (.inl rfl)) (pss_cons (ps_set (i := 5) sclaw.nd rfl (.inl rfl) (pe_callO G_check_of (hr.mono (by decide)) (by rfl) pass0 (pa_cons (pv 3) pa_nil)))
      (pss_cons (ps_for PassesOwn.never rfl (pi_range1 (by rfl) T.b_range (pa_cons (pe_callB call_len_seq (by rfl) T.b_len PySem.boot_len (pa_cons (pv 3) pa_nil)) pa_nil)) (pg_name (i := 6) sclaw.nd rfl (.inl rfl)) (pss_cons (ps_set (i := 7) sclaw.nd rfl (.inl rfl) (pe_ix ix_list (pe_lst (pa_cons (pe_callO G__law_other_word (hr.mono (by decide)) (by rfl) pass0 (pa_cons (pv 2) (pa_cons (pe_ix ix_list (pv 3) (pv 6) (fun _ _ => rfl)) pa_nil))) (pa_cons (pe_callO G__law_word (hr.mono (by decide)) (by rfl) pass0 (pa_cons (pv 2) pa_nil)) pa_nil))) (pe_callO G__law_take (hr.mono (by decide)) (by rfl) pass0 (pa_cons (pv 2) (pa_cons pe_int pa_nil))) (fun _ _ => rfl)))
      (pss_cons (ps_set (i := 8) sclaw.nd rfl (.inl rfl) (pe_op op_cat (pe_op op_cat (pe_slice sl_list (pv 3) po_none (po_some (pv 6))) (pe_lst (pa_cons (pv 7) pa_nil))) (pe_slice sl_list (pv 3) (po_some (pe_op op_add (pv 6) pe_int)) po_none)))
      (pss_one (ps_if (pt_cmpR op_ne (pe_cmpR op_eq (pe_callO G_check_of (hr.mono (by decide)) (by rfl) pass0 (pa_cons (pv 8) pa_nil)) (pv 5) (nomark _)) (pe_cmpR op_eq (pv 7) (pe_ix ix_list (pv 3) (pv 6) (fun _ _ => rfl)) (nomark _)) (nomark _)) (pss_one (ps_ret pe_bl)) pss_nil)))))
      (pss_one (ps_set (i := 3) sclaw.nd rfl (.inl rfl) (pe_revL (pv 3)))))))))))
      (pss_one (ps_ret pe_bl))), ?_⟩
    refine ⟨_, rfl, a, _, rfl, .inl ha, _, _, rfl, _, _, rfl, ?_⟩
    generalize hN : (if (if ((ns.map V.int).length : Int) < 10 then ((ns.map V.int).length : Int) else 10) > 2 then (if ((ns.map V.int).length : Int) < 10 then ((ns.map V.int).length : Int) else 10) else 2) = N
    have hN2 : 0 ≤ N ∧ N ≤ 10 := by
      rw [← hN]
      split <;> split <;> omega
    refine ⟨N, rfl, by omega, by omega, for_range (lo := 0) (n := N.toNat) (fun i σ H' => (∃ x1 x2 x3 x4 x5 x6 x7 x8 x9, σ = [some (.ref a), x1, x2, x3, x4, x5, x6, x7, x8, x9]) ∧ SqL K H' a (ns.map V.int)) ⟨⟨_, _, _, _, _, _, _, _, _, rfl⟩, ha⟩ (fun k σ H' hk hW => ?_) (fun σ H' hW => ?_)⟩
    · obtain ⟨⟨x1, x2, x3, x4, x5, x6, x7, x8, x9, rfl⟩, hs⟩ := hW
      rw [Int.zero_add]
      -- box, numbers
      refine ⟨_, rfl, _, rfl, a, ns, k, rfl, hs, fun c => ⟨c, rfl, fun b H1 nb hb s1 => ?_⟩⟩
      have sb : SqB K H1 [b] a (ns.map V.int) := ((SqB.nil hs).add nb).same s1
      refine ⟨_, rfl, b, 20, rfl, hb, by decide, by decide, fun r H2 r0 r1 k1 => ?_⟩
      refine ⟨_, _, rfl, rfl, _, rfl, (by show -(2 ^ 62 : Int) ≤ 1 + r; omega), (by show 1 + r < (2 ^ 62 : Int); omega), fun D hD => ?_⟩
      have sb2 : SqB K H2 [D, b] a (ns.map V.int) := (sb.keep List.mem_cons_self k1).add hD
      have nD : D ≠ b := by
        obtain ⟨ob, eb⟩ := k1.box.some
        exact (ne_of_none eb hD).symm
      refine lc_range (lo := 0) (n := (1 + r).toNat) (fun i H' => SqB K H' [D, b] a (ns.map V.int) ∧ Box H' b ∧ ∃ acc : List Int, acc.length = i ∧ Ws acc ∧ H' D = some (.lst (acc.map V.int))) ⟨sb2.same (same_upd hD), k1.box.new hD, [], rfl, fun n hn => (by cases hn), upd_same⟩ (fun i H3 hi hP => ?_) (fun H3 hP => ?_)
      · obtain ⟨c1, c2, acc, hl, hw, hd⟩ := hP
        refine ⟨rfl, ?_⟩
        refine ⟨_, rfl, b, rfl, c2, fun v H4 hv k4 => ?_⟩
        have hd4 := k4.old _ _ nD hd
        refine ⟨acc.map V.int, hd4, (by rw [List.length_map]; exact small1000 (by omega)), ?_⟩
        refine ⟨(c1.keep (List.mem_cons_of_mem _ List.mem_cons_self) k4).wr List.mem_cons_self, ?_, acc ++ [v], by simp [hl], fun n hn => ?_, ?_⟩
        · obtain ⟨d, m, c, e⟩ := k4.box
          exact ⟨d, m, c, by rw [upd_ne nD.symm]; exact e⟩
        · rcases List.mem_append.mp hn with z | z
          · exact hw n z
          · cases List.mem_singleton.mp z
            exact hv
        · rw [upd_same, List.map_append]
          rfl
      · obtain ⟨c1, c2, acc, hl, hw, hd⟩ := hP
        refine ⟨2, rfl, by decide, by decide, for_range (lo := 0) (n := 2) (fun i σ H' => ∃ (l : Addr) (xs : List Int), (∃ x4 x5 x6 x7 x8 x9, σ = [some (.ref a), some (.int k), some (.ref b), some (.ref l), x4, x5, x6, x7, x8, x9]) ∧ Now K a b l ns xs H' ∧ Ws xs ∧ xs.length ≤ 20)
          ⟨D, acc, ⟨_, _, _, _, _, _, rfl⟩, ⟨c1.drop, c2, hd, nD⟩, hw, by omega⟩ (fun t σ H4 ht hW => ?_) (fun σ H4 hW => ?_)⟩
        · obtain ⟨l, xs, ⟨x4, x5, x6, x7, x8, x9, rfl⟩, nw, hws, hxl⟩ := hW
          refine ⟨_, rfl, l, xs, rfl, nw.lst, hws, fun H5 s5 => ?_⟩
          have nw5 := nw.same s5
          refine ⟨_, rfl, l, _, rfl, .inl (SqL.of nw5.lst), _, rfl, ?_⟩
          rw [List.length_map]
          refine ⟨(by show -(2 ^ 62 : Int) ≤ (xs.length : Int); omega), (by show (xs.length : Int) < (2 ^ 62 : Int); omega), for_range (lo := 0) (n := xs.length) (fun i σ H' => (∃ x6 x7 x8 x9, σ = [some (.ref a), some (.int k), some (.ref b), some (.ref l), some (.int (0 + t)), some (.int (chk xs)), x6, x7, x8, x9]) ∧ Now K a b l ns xs H')
            ⟨⟨_, _, _, _, rfl⟩, nw5⟩ (fun i σ H6 hi hW => ?_) (fun σ H6 hW => ?_)⟩
          · obtain ⟨⟨x6, x7, x8, x9, rfl⟩, nw6⟩ := hW
            rw [Int.zero_add]
            have gi : (xs.map V.int)[i]? = some (.int xs[i]) := by
              rw [List.getElem?_map, List.getElem?_eq_getElem hi]
              rfl
            have wi : W xs[i] := hws _ (List.getElem_mem hi)
            -- other
            refine ⟨_, rfl, _, rfl, _, rfl, l, _, i, _, rfl, rfl, SqL.of nw6.lst, atI_nat gi, b, xs[i], rfl, nw6.box, wi, fun r1 H7 w1 k7 => ?_⟩
            have nw7 := nw6.keep k7
            refine ⟨_, rfl, b, rfl, nw7.box, fun r2 H8 w2 k8 => ?_⟩
            have nw8 := nw7.keep k8
            refine ⟨(by show 2 ≤ sizeLine; decide), fun p hp => ?_⟩
            have nw9 := nw8.new (o := .lst [.int r1, .int r2]) hp
            have np : p ≠ b := by
              obtain ⟨ob, eb⟩ := nw8.box.some
              exact (ne_of_none eb hp).symm
            refine ⟨_, rfl, b, 2, rfl, nw9.box, by decide, by decide, fun r3 H10 r30 r31 k10 => ?_⟩
            have nw10 := nw9.keep k10
            obtain ⟨o, ho, eo⟩ := pick (xs := [r1, r2]) r30 (by show r3 < 2; exact r31)
            have wo : W o := by
              simp only [List.mem_cons, List.not_mem_nil, or_false] at ho
              rcases ho with rfl | rfl
              · exact w1
              · exact w2
            refine ⟨p, _, r3, .int o, rfl, rfl, SqL.of (k10.old p _ np upd_same), eo, ?_⟩
            -- changed
            refine ⟨_, rfl, _, rfl, i, rfl, l, _, rfl, SqL.of nw10.lst, fun p1 hp1 => ?_⟩
            rw [cut_to (by rw [List.length_map]; omega)]
            have nw11 := nw10.new (o := .lst ((xs.map V.int).take i)) hp1
            refine ⟨_, rfl, len_small (by show 1 ≤ 1000; decide), fun p2 hp2 => ?_⟩
            have nw12 := nw11.new (o := .lst [.int o]) hp2
            have e1 : (upd (upd H10 p1 (.lst ((xs.map V.int).take i))) p2 (.lst [.int o])) p1 = some (.lst ((xs.map V.int).take i)) := same_upd hp2 _ _ upd_same
            refine ⟨p1, p2, _, _, rfl, rfl, e1, upd_same, len_small (by simp; omega), fun p3 hp3 => ?_⟩
            have nw13 := nw12.new (o := .lst ((xs.map V.int).take i ++ [.int o])) hp3
            refine ⟨_, rfl, _, rfl, _, _, rfl, rfl, _, rfl, l, _, rfl, SqL.of nw13.lst, fun p4 hp4 => ?_⟩
            rw [cut_from1 (by rw [List.length_map]; omega)]
            have nw14 := nw13.new (o := .lst ((xs.map V.int).drop (i + 1))) hp4
            refine ⟨p3, p4, _, _, rfl, rfl, same_upd hp4 _ _ upd_same, upd_same, len_small (by simp; omega), fun p5 hp5 => ?_⟩
            have nw15 := nw14.new (o := .lst ((xs.map V.int).take i ++ [.int o] ++ (xs.map V.int).drop (i + 1))) hp5
            -- the test
            have em : (xs.map V.int).take i ++ [.int o] ++ (xs.map V.int).drop (i + 1) = (xs.take i ++ [o] ++ xs.drop (i + 1)).map V.int := by
              simp
            have w5 : Ws (xs.take i) := fun n hn => hws n (List.mem_of_mem_take hn)
            have w6 : Ws (xs.drop (i + 1)) := fun n hn => hws n (List.mem_of_mem_drop hn)
            have w7 : Ws (xs.take i ++ [o] ++ xs.drop (i + 1)) := fun n hn => by
              rcases List.mem_append.mp hn with z | z
              · rcases List.mem_append.mp z with z | z
                · exact w5 n z
                · cases List.mem_singleton.mp z
                  exact wo
              · exact w6 n z
            refine ⟨_, rfl, p5, xs.take i ++ [o] ++ xs.drop (i + 1), rfl, by rw [upd_same, em], w7, fun H16 s16 => ?_⟩
            have nw16 := nw15.same s16
            refine ⟨_, rfl, rfl, _, rfl, _, rfl, _, rfl, l, _, i, _, rfl, rfl, SqL.of nw16.lst, atI_nat gi, rfl, rfl, _, rfl, ?_⟩
            have ex : xs = xs.take i ++ [xs[i]] ++ xs.drop (i + 1) := by
              simp
            have key := chk_one w5 w6 wi wo
            rw [← ex] at key
            refine iteNS ?_ ⟨⟨_, _, _, _, rfl⟩, nw16⟩
            rw [V.bl.injEq, decide_eq_decide, V.int.injEq, V.int.injEq]
            exact key
          · obtain ⟨⟨x6, x7, x8, x9, rfl⟩, nw6⟩ := hW
            refine ⟨_, rfl, l, _, rfl, SqL.of nw6.lst, fun p hp => ?_⟩
            have np : p ≠ b := by
              obtain ⟨ob, eb⟩ := nw6.box.some
              exact (ne_of_none eb hp).symm
            have nw7 := nw6.new (o := .lst (xs.map V.int).reverse) hp
            refine ⟨p, xs.reverse, ⟨_, _, _, _, _, _, rfl⟩, ⟨nw7.scr, nw7.box, by rw [upd_same, List.map_reverse], np⟩, fun n hn => hws n (List.mem_reverse.mp hn), by rw [List.length_reverse]; exact hxl⟩
        · obtain ⟨l, xs, ⟨x4, x5, x6, x7, x8, x9, rfl⟩, nw, _⟩ := hW
          exact ⟨⟨_, _, _, _, _, _, _, _, _, rfl⟩, nw.scr.1⟩
    · obtain ⟨⟨x1, x2, x3, x4, x5, x6, x7, x8, x9, rfl⟩, hs⟩ := hW
      exact q _
end
/-! ### the end -/
theorem all_mk {l : PySem.W.OpenLaw} {w : World} {K : PySem.W.Frag} {h : Heap} {mg : Str → Option Value} {fa : Addr} (X : K.In h) (G : h.Ns mainGlobals mg) (hfa : mg "law" = some (.ref fa)) (T : Tx mg)
    (d1 : At K "is_whole" sis_whole) (d2 : At K "is_within" sis_within) (d3 : At K "check_of" scheck_of) (d4 : At K "_law_cell_at" s_law_cell_at) (d5 : At K "_law_box" s_law_box) (d6 : At K "_law_take" s_law_take)
    (d7 : At K "_law_crossed" s_law_crossed) (d8 : At K "_law_word" s_law_word) (d9 : At K "_law_other_word" s_law_other_word) (d10 : At K "law" slaw) :
    ∃ fd : FuncData, (∀ (s : Shared) (v : Value), BindsTo s fd ⟨[v], []⟩ [("_law_script", v)]) ∧ ∀ base : Heap, K.In base → base.Ns mainGlobals mg → FnOk l.prog w K mg base CX0 4 fa fd ["_law_script"] (spLaw K) := by
  obtain ⟨f, fd, a, F⟩ := d10.ex
  have e := hfa.symm.trans (PySem.W.mg_of X G a)
  cases e
  have F' := F
  obtain ⟨oc, od, kV, doc, pm, an, cdv, ct, osl, rfl, lk, hcd⟩ := F'.ex
  refine ⟨PySem.W.fnOf "law" "law" (defArgs slaw) (defBody slaw) (defScope slaw) .none kV doc pm an cdv ct, fun s v => .of_eq rfl, fun base _ _ => ?_⟩
  have g1 : Ok l.prog w K mg base CX0 "is_whole" 1 ["thing"] spWhole := d1.ok X G (fun _ _ _ _ _ _ us hl => match us, hl with | [_], _ => rfl) fun _ _ F => ok_whole T F
  have g2 : Ok l.prog w K mg base CX0 "is_within" 2 ["thing", "low", "high"] spWithin := d2.ok X G (fun _ _ _ _ _ _ us hl => match us, hl with | [_, _, _], _ => rfl) fun _ _ F => ok_within T g1 F
  have g3 : Ok l.prog w K mg base CX0 "check_of" 3 ["numbers"] spCheck := d3.ok X G (fun _ _ _ _ _ _ us hl => match us, hl with | [_], _ => rfl) fun _ _ F => ok_check T g2 F
  have g4 : Ok l.prog w K mg base CX0 "_law_cell_at" 1 ["_law_script", "_law_k"] (spCell K) := d4.ok X G (fun _ _ _ _ _ _ us hl => match us, hl with | [_, _], _ => rfl) fun _ _ F => ok_cell T F
  have g5 : Ok l.prog w K mg base CX0 "_law_box" 1 ["_law_cell"] spBox := d5.ok X G (fun _ _ _ _ _ _ us hl => match us, hl with | [_], _ => rfl) fun _ _ F => ok_box T F
  have g6 : Ok l.prog w K mg base CX0 "_law_take" 1 ["_law_box_here", "_law_many"] spTake := d6.ok X G (fun _ _ _ _ _ _ us hl => match us, hl with | [_, _], _ => rfl) fun _ _ F => ok_take T F
  have g7 : Ok l.prog w K mg base CX0 "_law_crossed" 1 ["_law_one", "_law_other"] spCrossed := d7.ok X G (fun _ _ _ _ _ _ us hl => match us, hl with | [_, _], _ => rfl) fun _ _ F => ok_crossed T F
  have g8 : Ok l.prog w K mg base CX0 "_law_word" 2 ["_law_box_here"] spWord := d8.ok X G (fun _ _ _ _ _ _ us hl => match us, hl with | [_], _ => rfl) fun _ _ F => ok_word T g6 F
  have g9 : Ok l.prog w K mg base CX0 "_law_other_word" 2 ["_law_box_here", "_law_word_here"] spOther := d9.ok X G (fun _ _ _ _ _ _ us hl => match us, hl with | [_, _], _ => rfl) fun _ _ F => ok_other T g6 g7 F
  exact ok_law T g3 g4 g5 g6 g8 g9 F
theorem tx_mk {K : PySem.W.Frag} {h : Heap} {mg : Str → Option Value} (X : K.In h) (G : h.Ns mainGlobals mg) {t1 t2 t3 t4 t5 : Nat}
    (b1 : PySem.W.nsIn K mainGlobals "bool" = some none) (b2 : PySem.W.nsIn K mainGlobals "int" = some none) (b3 : PySem.W.nsIn K mainGlobals "isinstance" = some none) (b4 : PySem.W.nsIn K mainGlobals "len" = some none)
    (b5 : PySem.W.nsIn K mainGlobals "list" = some none) (b6 : PySem.W.nsIn K mainGlobals "max" = some none) (b7 : PySem.W.nsIn K mainGlobals "min" = some none) (b8 : PySem.W.nsIn K mainGlobals "range" = some none) (b9 : PySem.W.nsIn K mainGlobals "tuple" = some none)
    (c1 : PySem.W.nsIn K mainGlobals "BEGIN" = some (some (.int 2166136261 t1))) (c2 : PySem.W.nsIn K mainGlobals "TIMES" = some (some (.int 2654435769 t2))) (c3 : PySem.W.nsIn K mainGlobals "MORE" = some (some (.int 40503 t3)))
    (c4 : PySem.W.nsIn K mainGlobals "MOST" = some (some (.int 4294967295 t4))) (c5 : PySem.W.nsIn K mainGlobals "FAR" = some (some (.int 15 t5))) : Tx mg :=
  { b_bool := PySem.W.mg_none_of X G b1, b_int := PySem.W.mg_none_of X G b2, b_isinstance := PySem.W.mg_none_of X G b3, b_len := PySem.W.mg_none_of X G b4, b_list := PySem.W.mg_none_of X G b5, b_max := PySem.W.mg_none_of X G b6, b_min := PySem.W.mg_none_of X G b7, b_range := PySem.W.mg_none_of X G b8, b_tuple := PySem.W.mg_none_of X G b9,
    c_BEGIN := ⟨_, PySem.W.mg_of X G c1⟩, c_TIMES := ⟨_, PySem.W.mg_of X G c2⟩, c_MORE := ⟨_, PySem.W.mg_of X G c3⟩, c_MOST := ⟨_, PySem.W.mg_of X G c4⟩, c_FAR := ⟨_, PySem.W.mg_of X G c5⟩ }
end My
open PySem PySem.W PyProof.Rows
set_option maxHeartbeats 0 in
theorem PySem.Challenge.cw_leastlore_k02_checks_of_one_number_chang_holds : PySem.Challenge.rw_leastlore_k02_checks_of_one_number_chang.Holds := by
  w_on; o_law; k_head; (case hw => w_witness2)
  k_fill
  refine L2.walk_of (l := PySem.Challenge.rw_leastlore_k02_checks_of_one_number_chang) (n := 63) (k := 4) (x := "_law_script") (CX := fun _ => L2.CX0) (sp := fun w => My.spLaw _) rfl (by decide) rfl ⟨rfl, by decide, by decide⟩ (fun w h Y => PySem.W.kIn_of Y) ?F (fun _ _ a ns hl _ hS => ⟨a, ns, rfl, hS, hl, fun _ => rfl⟩) (fun _ _ _ _ _ h => h)
  case F =>
    intro w mg fa h KX G hmg
    refine' My.all_mk KX G hmg ?T ?d1 ?d2 ?d3 ?d4 ?d5 ?d6 ?d7 ?d8 ?d9 ?d10
    (case T =>
      refine' My.tx_mk KX G ?b1 ?b2 ?b3 ?b4 ?b5 ?b6 ?b7 ?b8 ?b9 ?c1 ?c2 ?c3 ?c4 ?c5
      (case b1 => k_is); (case b2 => k_is); (case b3 => k_is); (case b4 => k_is); (case b5 => k_is); (case b6 => k_is); (case b7 => k_is); (case b8 => k_is); (case b9 => k_is)
      (case c1 => k_is); (case c2 => k_is); (case c3 => k_is); (case c4 => k_is); (case c5 => k_is))
    (case d1 => refine' My.at_mk ?a ?l ?c ?k; (case a => k_is); (case l => k_is); (case c => k_is); (case k => k_is))
    (case d2 => refine' My.at_mk ?a ?l ?c ?k; (case a => k_is); (case l => k_is); (case c => k_is); (case k => k_is))
    (case d3 => refine' My.at_mk ?a ?l ?c ?k; (case a => k_is); (case l => k_is); (case c => k_is); (case k => k_is))
    (case d4 => refine' My.at_mk ?a ?l ?c ?k; (case a => k_is); (case l => k_is); (case c => k_is); (case k => k_is))
    (case d5 => refine' My.at_mk ?a ?l ?c ?k; (case a => k_is); (case l => k_is); (case c => k_is); (case k => k_is))
    (case d6 => refine' My.at_mk ?a ?l ?c ?k; (case a => k_is); (case l => k_is); (case c => k_is); (case k => k_is))
    (case d7 => refine' My.at_mk ?a ?l ?c ?k; (case a => k_is); (case l => k_is); (case c => k_is); (case k => k_is))
    (case d8 => refine' My.at_mk ?a ?l ?c ?k; (case a => k_is); (case l => k_is); (case c => k_is); (case k => k_is))
    (case d9 => refine' My.at_mk ?a ?l ?c ?k; (case a => k_is); (case l => k_is); (case c => k_is); (case k => k_is))
    (case d10 => refine' My.at_mk ?a ?l ?c ?k; (case a => k_is); (case l => k_is); (case c => k_is); (case k => k_is))
